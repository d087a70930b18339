import PyProof.Rows.All
import Wide.All
import OpenK.AllK
import Wide.FinOn
import PySem.PyData
import HandS.ForMost
import HandS.Wide
import HandS.IsInst
import HandS.Deep
import HandS.SortInts
import HandS.Walk
import HandS.NoneIn
import HandS.Zip
import HandS.Rev
import HandS.RevRange
import HandS.Style
import HandS.Defaults
import HandS.WideBits
import HandS.Head0
import HandS.Head1
import HandS.Head2
import HandS.HeadEnd
import HandS.HeadHook1
import HandS.HeadHook2
import PySem.Challenge.RW_turnguard_k63_left_out
set_option Elab.async false
set_option linter.all false
set_option maxRecDepth 99999
set_option maxHeartbeats 9000000
namespace Tg
open PySem

/-- what a value is, as a tree; o: it may be changed by whoever has it -/
inductive D where
  | non
  | bl (b : Bool)
  | int (i : Int)
  | str (x : List Nat)
  | tup (xs : List D)
  | lst (o : Bool) (xs : List D)
  | dic (o : Bool) (k : Nat) (kvs : List (D × D))
  | obj (o : Bool) (c : Nat) (fs : List (Str × D))
  /-- the law's script, as it is handed in -/
  | scr (ns : List Int)
  | hole
  deriving Inhabited

/-! ### what may be handed on as it is; frozen; no frozen part -/
mutual
def D.sh : D → Bool
  | .tup xs => D.shs xs
  | .lst o _ => !o
  | .dic o _ _ => !o
  | .obj o _ _ => !o
  | _ => true
def D.shs : List D → Bool
  | [] => true
  | x :: xs => D.sh x && D.shs xs
end
mutual
def D.fz : D → D
  | .tup xs => .tup (D.fzs xs)
  | .lst o xs => if o then .lst false (D.fzs xs) else .lst o xs
  | .dic o k kvs => if o then .dic false k (D.fzk kvs) else .dic o k kvs
  | .obj o c fs => if o then .obj false c (D.fzf fs) else .obj o c fs
  | d => d
def D.fzs : List D → List D
  | [] => []
  | x :: xs => D.fz x :: D.fzs xs
def D.fzk : List (D × D) → List (D × D)
  | [] => []
  | (k, x) :: xs => (k, D.fz x) :: D.fzk xs
def D.fzf : List (Str × D) → List (Str × D)
  | [] => []
  | (k, x) :: xs => (k, D.fz x) :: D.fzf xs
end
mutual
def D.nf : D → Bool
  | .tup xs => D.nfs xs
  | .lst o xs => o && D.nfs xs
  | .dic o _ kvs => o && D.nfk kvs
  | .obj o _ fs => o && D.nff fs
  | .scr _ => false
  | _ => true
def D.nfs : List D → Bool
  | [] => true
  | x :: xs => D.nf x && D.nfs xs
def D.nfk : List (D × D) → Bool
  | [] => true
  | (_, x) :: xs => D.nf x && D.nfk xs
def D.nff : List (Str × D) → Bool
  | [] => true
  | (_, x) :: xs => D.nf x && D.nff xs
end
/-! ### equality as the program's == tells it -/
mutual
def D.eqv : D → D → Bool
  | .non, .non => true
  | .bl a, .bl b => a == b
  | .bl a, .int j => (if a then 1 else 0) == j
  | .int i, .bl b => i == (if b then 1 else 0)
  | .int i, .int j => i == j
  | .str x, .str y => x == y
  | .lst _ xs, .lst _ ys => D.eqvs xs ys
  | .tup xs, .tup ys => D.eqvs xs ys
  | _, _ => false
def D.eqvs : List D → List D → Bool
  | [], [] => true
  | x :: xs, y :: ys => D.eqv x y && D.eqvs xs ys
  | _, _ => false
end
/-! what == may be asked of, at a depth of at most n -/
mutual
def D.eqok : Nat → D → Bool
  | _, .non => true
  | _, .bl _ => true
  | _, .int _ => true
  | _, .str x => x.all fun c => decide (c < 1114112)
  | n + 1, .lst _ xs => D.eqoks n xs
  | n + 1, .tup xs => D.eqoks n xs
  | _, _ => false
def D.eqoks : Nat → List D → Bool
  | _, [] => true
  | n, x :: xs => D.eqok n x && D.eqoks n xs
end
theorem D.shs_eq (xs : List D) : D.shs xs = xs.all D.sh := by
  induction xs with
  | nil => rfl
  | cons x xs ih => show (D.sh x && D.shs xs) = _; rw [ih]; rfl
theorem D.fzs_eq (xs : List D) : D.fzs xs = xs.map D.fz := by
  induction xs with
  | nil => rfl
  | cons x xs ih => show D.fz x :: D.fzs xs = _; rw [ih]; rfl
theorem D.nfs_eq (xs : List D) : D.nfs xs = xs.all D.nf := by
  induction xs with
  | nil => rfl
  | cons x xs ih => show (D.nf x && D.nfs xs) = _; rw [ih]; rfl
mutual
theorem D.fz_sh : ∀ d : D, d.sh = true → d.fz = d
  | .non, _ => rfl
  | .bl _, _ => rfl
  | .int _, _ => rfl
  | .str _, _ => rfl
  | .hole, _ => rfl
  | .scr _, _ => rfl
  | .tup xs, h => by
    show D.tup (D.fzs xs) = _
    rw [D.fzs_sh xs h]
  | .lst o xs, h => by
    cases o with
    | false => rfl
    | true => cases h
  | .dic o _ _, h => by
    cases o with
    | false => rfl
    | true => cases h
  | .obj o _ _, h => by
    cases o with
    | false => rfl
    | true => cases h
theorem D.fzs_sh : ∀ xs : List D, D.shs xs = true → D.fzs xs = xs
  | [], _ => rfl
  | x :: xs, h => by
    have h' : (x.sh && D.shs xs) = true := h
    rw [Bool.and_eq_true] at h'
    show x.fz :: D.fzs xs = _
    rw [D.fz_sh x h'.1, D.fzs_sh xs h'.2]
end

/-! ### states, flows, what an expression, a statement does -/
abbrev Env := List D
inductive Fl where
  | nx (e : Env)
  | rt (d : D) (e : Env)
  | bk (e : Env)
  | ct (e : Env)
abbrev EE := Env → Option D
abbrev EA := Env → Option (List D)
abbrev SS := Env → Option Fl
/-- f called with these: what it hands back, and the parameters that it may change, behind it -/
abbrev Call := Nat → List D → Option (D × List D)

/-! ### places in lists -/
def ixD (n : Nat) (i : Int) : Option Nat := if 0 ≤ i then (if i < n then some i.toNat else none) else if -(n : Int) ≤ i then some (i + n).toNat else none
def atD {α : Type} (xs : List α) (i : Int) : Option α := (ixD xs.length i).bind fun j => xs[j]?
def cutI (n d : Nat) : Option Int → Nat
  | none => d
  | some v => if v < 0 then (max (v + (n : Int)) 0).toNat else min v.toNat n
def cutD {α : Type} (xs : List α) (lo hi : Option Int) : List α := (xs.drop (cutI xs.length 0 lo)).take (cutI xs.length xs.length hi - cutI xs.length 0 lo)
/-- the longest list, the longest text -/
def line : Nat := 16777216

/-! ### expressions -/
def eVar (i : Nat) : EE := fun env => match env[i]? with
  | some .hole => none
  | some d => some d
  | none => none
def eC (d : D) : EE := fun _ => some d
/-- a path's value where it is handed on -/
def eSh (f : EE) : EE := fun env => (f env).bind fun d => if d.sh then some d else none
def eOp (g : D → D → Option D) (a b : EE) : EE := fun env => (a env).bind fun x => (b env).bind fun y => g x y
def eUn (g : D → Option D) (a : EE) : EE := fun env => (a env).bind g
def eAnd (a b : EE) : EE := fun env => match a env with
  | some (.bl true) => b env
  | some (.bl false) => some (.bl false)
  | _ => none
def eOr (a b : EE) : EE := fun env => match a env with
  | some (.bl false) => b env
  | some (.bl true) => some (.bl true)
  | _ => none
def eIf (c a b : EE) : EE := fun env => match c env with
  | some (.bl true) => a env
  | some (.bl false) => b env
  | _ => none
def eNil : EA := fun _ => some []
def eCons (a : EE) (as : EA) : EA := fun env => (a env).bind fun x => (as env).bind fun xs => some (x :: xs)
def eTup (as : EA) : EE := fun env => (as env).bind fun xs => some (.tup xs)
def eLst (as : EA) : EE := fun env => (as env).bind fun xs => some (.lst true xs)

def gAdd : D → D → Option D
  | .int i, .int j => some (.int (i + j))
  | .str x, .str y => if x.length + y.length ≤ line then some (.str (x ++ y)) else none
  | .lst _ xs, .lst _ ys => if D.shs xs && D.shs ys && decide (xs.length + ys.length ≤ line) then some (.lst true (xs ++ ys)) else none
  | .tup xs, .tup ys => if D.shs xs && D.shs ys && !xs.isEmpty && !ys.isEmpty && decide (xs.length + ys.length ≤ line) then some (.tup (xs ++ ys)) else none
  | _, _ => none
def gSub : D → D → Option D
  | .int i, .int j => some (.int (i - j))
  | _, _ => none
def gMul : D → D → Option D
  | .int i, .int j => if i.natAbs.log2 + j.natAbs.log2 < 1000000 ∨ (-(2 ^ 64) < i ∧ i < 2 ^ 64) ∨ (-(2 ^ 64) < j ∧ j < 2 ^ 64) then some (.int (i * j)) else none
  | .lst _ xs, .int k => if D.shs xs && decide (-(2 ^ 63) ≤ k ∧ k < 2 ^ 63 ∧ xs.length * k.toNat ≤ line) then some (.lst true (List.replicate k.toNat xs).flatten) else none
  | _, _ => none
def gDiv : D → D → Option D
  | .int i, .int j => if 0 < j ∧ (j < 1073741824 ∨ j.natAbs.log2 < 9000) then some (.int (i / j)) else none
  | _, _ => none
def gMod : D → D → Option D
  | .int i, .int j => if 0 < j then some (.int (i % j)) else none
  | _, _ => none
def gPow : D → D → Option D
  | .int i, .int j => if 0 ≤ j ∧ j ≤ 1000000 ∧ i.natAbs < 2 ^ 64 then some (.int (i ^ j.toNat)) else none
  | _, _ => none
def gShl : D → D → Option D
  | .int i, .int j => if 0 ≤ j ∧ j ≤ 1000000 ∧ i.natAbs < 2 ^ 64 then some (.int (i * 2 ^ j.toNat)) else none
  | _, _ => none
def gShr : D → D → Option D
  | .int i, .int j => if 0 ≤ j then some (.int (i / 2 ^ j.toNat)) else none
  | _, _ => none
def gAndB : D → D → Option D
  | .int i, .int j => if 0 ≤ i ∧ 0 ≤ j then some (.int ((i.toNat &&& j.toNat : Nat) : Int)) else none
  | _, _ => none
def gOrB : D → D → Option D
  | .int i, .int j => if 0 ≤ i ∧ 0 ≤ j then some (.int ((i.toNat ||| j.toNat : Nat) : Int)) else none
  | _, _ => none
def gXorB : D → D → Option D
  | .int i, .int j => if 0 ≤ i ∧ 0 ≤ j then some (.int ((i.toNat ^^^ j.toNat : Nat) : Int)) else none
  | _, _ => none
def gNeg : D → Option D
  | .int i => some (.int (-i))
  | _ => none
def gNot : D → Option D
  | .bl b => some (.bl (!b))
  | _ => none
def gLt : D → D → Option D
  | .int i, .int j => some (.bl (decide (i < j)))
  | _, _ => none
def gLe : D → D → Option D
  | .int i, .int j => some (.bl (decide (i ≤ j)))
  | _, _ => none
def gGt : D → D → Option D
  | .int i, .int j => some (.bl (decide (j < i)))
  | _, _ => none
def gGe : D → D → Option D
  | .int i, .int j => some (.bl (decide (j ≤ i)))
  | _, _ => none
/-- two texts, any other two things at a depth of at most 60 -/
def eqD : D → D → Option Bool
  | .str x, .str y => some (x == y)
  | x, y => if D.eqok 60 x && D.eqok 60 y then some (D.eqv x y) else none
def gEq : D → D → Option D := fun x y => (eqD x y).map .bl
def gNe : D → D → Option D := fun x y => (eqD x y).map fun b => .bl (!b)
/-- a built-in type -/
inductive Ty where
  | int | bool | tuple | list | str | dict
def isI : Ty → D → Option Bool
  | _, .hole => none
  | _, .scr _ => none
  | _, .obj _ _ _ => none
  | .int, .int _ => some true
  | .int, .bl _ => some true
  | .bool, .bl _ => some true
  | .tuple, .tup _ => some true
  | .list, .lst _ _ => some true
  | .str, .str _ => some true
  | .dict, .dic _ _ _ => some true
  | _, _ => some false
def eInst (t : Ty) (a : EE) : EE := fun env => (a env).bind fun d => (isI t d).map .bl
def isNon : D → Bool
  | .non => true
  | _ => false
def gIsN : D → Option D
  | .hole => none
  | d => some (.bl (isNon d))
def gNotN : D → Option D
  | .hole => none
  | d => some (.bl (!isNon d))
def flat : D → Bool
  | .non => true
  | .bl _ => true
  | .int _ => true
  | .str _ => true
  | _ => false
/-- one sign in a text; a flat thing in a list or tuple of such -/
def inD : D → D → Option Bool
  | .str [c], .str z => some (decide (c ∈ z))
  | x, .tup xs => if flat x && xs.all flat then some (xs.any fun y => D.eqv y x) else none
  | x, .lst _ xs => if flat x && xs.all flat then some (xs.any fun y => D.eqv y x) else none
  | _, _ => none
def gIn : D → D → Option D := fun x y => (inD x y).map .bl
def gNotIn : D → D → Option D := fun x y => (inD x y).map fun b => .bl (!b)
def gIx : D → D → Option D
  | .tup xs, .int i => atD xs i
  | .lst _ xs, .int i => atD xs i
  | .str x, .int i => if x.length ≤ line then (atD x i).map fun c => .str [c] else none
  | .scr ns, .int i => (atD ns i).map .int
  | _, _ => none
def gLen : D → Option D
  | .tup xs => some (.int xs.length)
  | .lst _ xs => some (.int xs.length)
  | .str x => if x.length ≤ line then some (.int x.length) else none
  | .scr ns => some (.int ns.length)
  | _ => none
def gList : D → Option D
  | .tup xs => if D.shs xs then some (.lst true xs) else none
  | .lst _ xs => if D.shs xs then some (.lst true xs) else none
  | .scr ns => some (.lst true (ns.map .int))
  | _ => none
def gTuple : D → Option D
  | .tup xs => if D.shs xs then some (.tup xs) else none
  | .lst _ xs => if D.shs xs then some (.tup xs) else none
  | _ => none
def gInt : D → Option D
  | .int i => some (.int i)
  | .bl b => some (.int (if b then 1 else 0))
  | _ => none
def gPart : D → Option Int
  | .int i => some i
  | _ => none
def gCut (lo hi : Option Int) : D → Option D
  | .lst _ xs => if D.shs xs then some (.lst true (cutD xs lo hi)) else none
  | .scr ns => some (.lst true ((cutD ns lo hi).map .int))
  | .str x => if x.length ≤ line then some (.str (cutD x lo hi)) else none
  | .tup xs => if D.shs xs && decide ((cutD xs lo hi).length < xs.length) then some (.tup (cutD xs lo hi)) else none
  | _ => none
def pNone : Env → Option (Option Int) := fun _ => some none
def pSome (a : EE) : Env → Option (Option Int) := fun env => ((a env).bind gPart).map some
def eCut (a : EE) (lo hi : Env → Option (Option Int)) : EE := fun env => (a env).bind fun x => (lo env).bind fun l => (hi env).bind fun h => gCut l h x
/-- two comparisons in a chain -/
def eChain (g h : D → D → Option D) (a b c : EE) : EE := fun env => (a env).bind fun x => (b env).bind fun y => match g x y with
  | some (.bl true) => (c env).bind fun z => h y z
  | some (.bl false) => some (.bl false)
  | _ => none
/-- a call that changes nothing handed in -/
def eCall (call : Call) (f : Nat) (as : EA) : EE := fun env => (as env).bind fun ds => (call f (D.fzs ds)).map (·.1)
/-- .. things that one has oneself are lent to it -/
def eCallB (call : Call) (f : Nat) (as : EA) : EE := fun env => (as env).bind fun ds => (call f (D.fzs ds)).bind fun r => if D.nf r.1 then some r.1 else none

/-! ### what is walked -/
abbrev It := Env → Option (List D)
def items : D → Option (List D)
  | .lst _ xs => if D.shs xs then some xs else none
  | .tup xs => if D.shs xs then some xs else none
  | .str x => some (x.map fun c => .str [c])
  | .scr ns => some (ns.map .int)
  | _ => none
def iSeq (a : EE) : It := fun env => (a env).bind items
def small62 (i : Int) : Bool := decide (-(2 ^ 62) ≤ i ∧ i < 2 ^ 62)
def iRng (a : EE) : It := fun env => match a env with
  | some (.int n) => if small62 n then some ((List.range n.toNat).map fun (k : Nat) => .int (k : Int)) else none
  | _ => none
def iRng2 (a b : EE) : It := fun env => match a env, b env with
  | some (.int m), some (.int n) => if small62 m && small62 n then some ((List.range (n - m).toNat).map fun (k : Nat) => .int (m + (k : Int))) else none
  | _, _ => none
def iEnum (a : EE) : It := fun env => (a env).bind fun d => match d with
  | .lst _ xs => if D.shs xs then some ((List.range xs.length).zipWith (fun (k : Nat) x => .tup [.int (k : Int), x]) xs) else none
  | _ => none
def iZip (a b : EE) : It := fun env => (a env).bind fun d => (b env).bind fun e => match d, e with
  | .lst _ xs, .lst _ ys => if D.shs xs && D.shs ys then some (List.zipWith (fun x y => .tup [x, y]) xs ys) else none
  | _, _ => none

/-! ### targets -/
abbrev TgT := D → Env → Option Env
def tgN (i : Nat) : TgT := fun d env => if i < env.length then some (env.set i d) else none
def tgs : List TgT → List D → Env → Option Env
  | [], [], env => some env
  | t :: ts, d :: ds, env => (t d env).bind (tgs ts ds)
  | _, _, _ => none
def tgU (ts : List TgT) : TgT := fun d env => match d with
  | .tup xs => tgs ts xs env
  | _ => none

/-! ### comprehensions -/
def compL (tg : TgT) (c e : EE) (env : Env) : List D → Option (List D)
  | [] => some []
  | x :: xs => (tg x env).bind fun env' => match c env' with
    | some (.bl true) => (e env').bind fun d => (compL tg c e env xs).map fun r => d :: r
    | some (.bl false) => compL tg c e env xs
    | _ => none
def eComp (it : It) (tg : TgT) (c e : EE) : EE := fun env => (it env).bind fun xs => if xs.length < line then (compL tg c e env xs).map (.lst true) else none

/-! ### statements -/
def sNil : SS := fun env => some (.nx env)
def sSeq (a b : SS) : SS := fun env => match a env with
  | some (.nx env') => b env'
  | r => r
def sPass : SS := fun env => some (.nx env)
def sBrk : SS := fun env => some (.bk env)
def sCnt : SS := fun env => some (.ct env)
def sRet (e : EE) : SS := fun env => (e env).map fun d => .rt d env
def sRetN : SS := fun env => some (.rt .non env)
def sDrop (e : EE) : SS := fun env => (e env).map fun _ => .nx env
def sAsg (e : EE) (t : TgT) : SS := fun env => (e env).bind fun d => (t d env).map .nx
def sIf (c : EE) (a b : SS) : SS := fun env => match c env with
  | some (.bl true) => a env
  | some (.bl false) => b env
  | _ => none
def sNever : SS := fun _ => none
def sFor (tg : TgT) (body : SS) : List D → Env → Option Fl
  | [], env => some (.nx env)
  | x :: xs, env => (tg x env).bind fun env1 => match body env1 with
    | some (.nx env') => sFor tg body xs env'
    | some (.ct env') => sFor tg body xs env'
    | some (.bk env') => some (.nx env')
    | some (.rt d env') => some (.rt d env')
    | none => none
def sForI (it : It) (tg : TgT) (body : SS) : SS := fun env => (it env).bind fun xs => sFor tg body xs env
def sWhile (c : EE) (body : SS) : Nat → Env → Option Fl
  | 0, _ => none
  | n + 1, env => match c env with
    | some (.bl false) => some (.nx env)
    | some (.bl true) => match body env with
      | some (.nx env') => sWhile c body n env'
      | some (.ct env') => sWhile c body n env'
      | some (.bk env') => some (.nx env')
      | some (.rt d env') => some (.rt d env')
      | none => none
    | _ => none
def fuel : Nat := 1099511627776
def sWh (c : EE) (body : SS) : SS := sWhile c body fuel

/-! ### paths -/
/-- a step of a path: an item, a field -/
inductive Stp where
  | ix (a : EE)
  | fd (c : Nat) (f : Str)
inductive St1 where
  | ix (d : D)
  | fd (c : Nat) (f : Str)
def lookF (f : Str) : List (Str × D) → Option D
  | [] => none
  | (g, d) :: r => if f = g then some d else lookF f r
def putFD (f : Str) (d : D) : List (Str × D) → List (Str × D)
  | [] => [(f, d)]
  | (g, e) :: r => if g = f then (f, d) :: r else (g, e) :: putFD f d r
def getS : St1 → D → Option D
  | .ix (.int i), .lst _ xs => atD xs i
  | .ix (.int i), .tup xs => atD xs i
  | .fd c f, .obj _ c' fs => if c = c' then lookF f fs else none
  | _, _ => none
def getP : List St1 → D → Option D
  | [], d => some d
  | s :: r, d => (getS s d).bind (getP r)
/-- .. changed there -/
def setS : St1 → D → D → D
  | .ix (.int i), n, .lst o xs => match ixD xs.length i with
    | some j => .lst o (xs.set j n)
    | none => .lst o xs
  | .ix (.int i), n, .tup xs => match ixD xs.length i with
    | some j => .tup (xs.set j n)
    | none => .tup xs
  | .fd c f, n, .obj o c' fs => if c = c' then .obj o c' (putFD f n fs) else .obj o c' fs
  | _, _, d => d
def setP : List St1 → D → D → D
  | [], n, _ => n
  | s :: r, n, d => match getS s d with
    | some e => setS s (setP r n e) d
    | none => d
abbrev EP1 := Env → Option (List St1)
def qNil : EP1 := fun _ => some []
def qIx (p : EP1) (a : EE) : EP1 := fun env => (p env).bind fun l => (a env).bind fun d => some (l ++ [.ix d])
def qFd (p : EP1) (c : Nat) (f : Str) : EP1 := fun env => (p env).bind fun l => some (l ++ [.fd c f])
/-- a field looked at -/
def eFd (a : EE) (c : Nat) (f : Str) : EE := fun env => (a env).bind fun d => getS (.fd c f) d
/-- what is at a path of a slot; a path of a slot changed -/
def getAt (i : Nat) (l : List St1) (env : Env) : Option D := match env[i]? with
  | some .hole => none
  | some d => getP l d
  | none => none
def setAt (i : Nat) (l : List St1) (n : D) (env : Env) : Env := match env[i]? with
  | some d => env.set i (setP l n d)
  | none => env
/-- path.append(e) -/
def sApp (i : Nat) (p : EP1) (e : EE) : SS := fun env => (p env).bind fun l => match getAt i l env with
  | some (.lst true xs) => (e env).bind fun y => if xs.length < line then some (.nx (setAt i l (.lst true (xs ++ [y])) env)) else none
  | _ => none
/-- path[k] = e -/
def sPut (i : Nat) (p : EP1) (k e : EE) : SS := fun env => (e env).bind fun y => (p env).bind fun l => match getAt i l env with
  | some (.lst true xs) => (k env).bind fun d => match d with
    | .int z => match ixD xs.length z with
      | some j => some (.nx (setAt i l (.lst true (xs.set j y)) env))
      | none => none
    | _ => none
  | _ => none
/-- name = path.pop() -/
def sPop (i : Nat) (p : EP1) (t : TgT) : SS := fun env => (p env).bind fun l => match getAt i l env with
  | some (.lst true xs) => match xs.getLast? with
    | some y => (t y (setAt i l (.lst true xs.dropLast) env)).map .nx
    | none => none
  | _ => none
end Tg

namespace Tg
open PySem PySem.Spec L2

theorem atD_eq {α : Type} (xs : List α) (i : Int) : atD xs i = atI xs i := rfl
theorem line_eq : line = sizeLine := by rw [sizeLine_eq]; rfl

/-! ### what stands for what -/
def kD : Key → D
  | .inl i => .int i
  | .inr x => .str x.cps.toList
mutual
/-- v is d, its own parts at F; the frozen ones are none of W -/
inductive Own (K : PySem.W.Frag) (cl : Nat → Addr) (W : List Addr) (H : Hp) : V → D → List Addr → Prop
  | non : Own K cl W H .non .non []
  | bl (b : Bool) : Own K cl W H (.bl b) (.bl b) []
  | int (i : Int) : Own K cl W H (.int i) (.int i) []
  | str (x : List Nat) : Own K cl W H (.str ⟨x.toArray⟩) (.str x) []
  | tup {a : Addr} {vs : List V} {ds : List D} {F : List Addr} : H a = some (.tup vs) → Owns K cl W H vs ds F → Own K cl W H (.ref a) (.tup ds) F
  | lstO {a : Addr} {vs : List V} {ds : List D} {F : List Addr} : H a = some (.lst vs) → Owns K cl W H vs ds F → Own K cl W H (.ref a) (.lst true ds) (a :: F)
  | scr {a : Addr} {ns : List Int} : Rd H a (.lst (ns.map V.int)) → a ∉ W → Own K cl W H (.ref a) (.scr ns) []
  | scrK {a : Addr} {ns : List Int} : (∃ (o : Obj) (its : Array Value) (n : Nat), K.lookup a = some o ∧ o.cls = .type "list" ∧ o.dict = none ∧ o.data = .seq its n ∧ its.size ≤ sizeLine ∧ Vals (ns.map V.int) its.toList) → Own K cl W H (.ref a) (.scr ns) []
  | lstF {a : Addr} {vs : List V} {ds : List D} : H a = some (.lst vs) → a ∉ W → Owns K cl W H vs ds [] → Own K cl W H (.ref a) (.lst false ds) []
  | dicO {a : Addr} {kvs : List (Key × V)} {ds : List (D × D)} {F : List Addr} : H a = some (.dK kvs) → kvs.map (fun p => kD p.1) = ds.map (·.1) → Owns K cl W H (kvs.map (·.2)) (ds.map (·.2)) F → Own K cl W H (.ref a) (.dic true 0 ds) (a :: F)
  | dicF {a : Addr} {kvs : List (Key × V)} {ds : List (D × D)} : H a = some (.dK kvs) → a ∉ W → kvs.map (fun p => kD p.1) = ds.map (·.1) → Owns K cl W H (kvs.map (·.2)) (ds.map (·.2)) [] → Own K cl W H (.ref a) (.dic false 0 ds) []
  | dtO {a : Addr} {kvs : List (List Key × V)} {ds : List (D × D)} {F : List Addr} : H a = some (.dT kvs) → kvs.map (fun p => D.tup (p.1.map kD)) = ds.map (·.1) → Owns K cl W H (kvs.map (·.2)) (ds.map (·.2)) F → Own K cl W H (.ref a) (.dic true 1 ds) (a :: F)
  | dtF {a : Addr} {kvs : List (List Key × V)} {ds : List (D × D)} : H a = some (.dT kvs) → a ∉ W → kvs.map (fun p => D.tup (p.1.map kD)) = ds.map (·.1) → Owns K cl W H (kvs.map (·.2)) (ds.map (·.2)) [] → Own K cl W H (.ref a) (.dic false 1 ds) []
  | objO {a dx : Addr} {c : Nat} {fs : List (Str × V)} {ds : List (Str × D)} {F : List Addr} : H a = some (.ins (cl c) dx fs) → fs.map (·.1) = ds.map (·.1) → Owns K cl W H (fs.map (·.2)) (ds.map (·.2)) F → Own K cl W H (.ref a) (.obj true c ds) (a :: F)
  | objF {a dx : Addr} {c : Nat} {fs : List (Str × V)} {ds : List (Str × D)} : H a = some (.ins (cl c) dx fs) → a ∉ W → fs.map (·.1) = ds.map (·.1) → Owns K cl W H (fs.map (·.2)) (ds.map (·.2)) [] → Own K cl W H (.ref a) (.obj false c ds) []
  | hole (v : V) : Own K cl W H v .hole []
inductive Owns (K : PySem.W.Frag) (cl : Nat → Addr) (W : List Addr) (H : Hp) : List V → List D → List Addr → Prop
  | nil : Owns K cl W H [] [] []
  | cons {v : V} {vs : List V} {d : D} {ds : List D} {F G : List Addr} : Own K cl W H v d F → Owns K cl W H vs ds G → Owns K cl W H (v :: vs) (d :: ds) (F ++ G)
end

section
variable {K : PySem.W.Frag} {cl : Nat → Addr} {W W' : List Addr} {H H' : Hp}
theorem rdSame (e : Same H H') {a : Addr} {u : HO} (h : Rd H a u) : Rd H' a u := by
  rcases h with h | ⟨o, h⟩
  · exact .inl (e _ _ h)
  · exact .inr ⟨o, e _ _ h⟩
theorem sqtSame (e : Same H H') {a : Addr} {vs : List V} (h : SqT K H a vs) : SqT K H' a vs := by
  rcases h with h | h
  · exact .inl (rdSame e h)
  · exact .inr h
/-- the heap may change at what is neither in the value's own parts nor frozen -/
structure Keep (W W' : List Addr) (F : List Addr) (H H' : Hp) : Prop where
  own : ∀ a ∈ F, ∀ o, H a = some o → H' a = some o
  out : ∀ a o, a ∉ W → H a = some o → H' a = some o
  tup : ∀ a vs, H a = some (.tup vs) → H' a = some (.tup vs)
  frz : ∀ a o u, H a = some (.frz o u) → H' a = some (.frz o u)
  fr : ∀ a, a ∉ W → H a ≠ none → a ∉ W'
theorem Keep.app1 {F G : List Addr} (k : Keep W W' (F ++ G) H H') : Keep W W' F H H' := ⟨fun a ha => k.own a (List.mem_append_left _ ha), k.out, k.tup, k.frz, k.fr⟩
theorem Keep.app2 {F G : List Addr} (k : Keep W W' (F ++ G) H H') : Keep W W' G H H' := ⟨fun a ha => k.own a (List.mem_append_right _ ha), k.out, k.tup, k.frz, k.fr⟩
theorem Keep.tl {b : Addr} {F : List Addr} (k : Keep W W' (b :: F) H H') : Keep W W' F H H' := ⟨fun a ha => k.own a (List.mem_cons_of_mem _ ha), k.out, k.tup, k.frz, k.fr⟩
theorem rd_some {a : Addr} {u : HO} (h : Rd H a u) : H a ≠ none := by
  rcases h with h | ⟨o, h⟩ <;> rw [h] <;> simp
mutual
theorem Own.keep : ∀ {v : V} {d : D} {F : List Addr}, Own K cl W H v d F → Keep W W' F H H' → Own K cl W' H' v d F
  | _, _, _, .non, _ => .non
  | _, _, _, .bl b, _ => .bl b
  | _, _, _, .int i, _ => .int i
  | _, _, _, .str x, _ => .str x
  | _, _, _, .tup h hs, k => by
    exact .tup (k.tup _ _ h) (Owns.keep hs k)
  | _, _, _, .lstO h hs, k => .lstO (k.own _ List.mem_cons_self _ h) (Owns.keep hs k.tl)
  | _, _, _, .lstF h hn hs, k => .lstF (k.out _ _ hn h) (k.fr _ hn (by rw [h]; simp)) (Owns.keep hs ⟨(fun _ ha => nomatch ha), k.out, k.tup, k.frz, k.fr⟩)
  | _, _, _, .scr h hn, k => .scr (by
    rcases h with h | ⟨o, h⟩
    · exact .inl (k.out _ _ hn h)
    · exact .inr ⟨o, k.out _ _ hn h⟩) (k.fr _ hn (rd_some h))
  | _, _, _, .scrK h, k => .scrK h
  | _, _, _, .dicO h e hs, k => .dicO (k.own _ List.mem_cons_self _ h) e (Owns.keep hs k.tl)
  | _, _, _, .dicF h hn e hs, k => .dicF (k.out _ _ hn h) (k.fr _ hn (by rw [h]; simp)) e (Owns.keep hs ⟨(fun _ ha => nomatch ha), k.out, k.tup, k.frz, k.fr⟩)
  | _, _, _, .dtO h e hs, k => .dtO (k.own _ List.mem_cons_self _ h) e (Owns.keep hs k.tl)
  | _, _, _, .dtF h hn e hs, k => .dtF (k.out _ _ hn h) (k.fr _ hn (by rw [h]; simp)) e (Owns.keep hs ⟨(fun _ ha => nomatch ha), k.out, k.tup, k.frz, k.fr⟩)
  | _, _, _, .objO h e hs, k => .objO (k.own _ List.mem_cons_self _ h) e (Owns.keep hs k.tl)
  | _, _, _, .objF h hn e hs, k => .objF (k.out _ _ hn h) (k.fr _ hn (by rw [h]; simp)) e (Owns.keep hs ⟨(fun _ ha => nomatch ha), k.out, k.tup, k.frz, k.fr⟩)
  | _, _, _, .hole v, _ => .hole v
theorem Owns.keep : ∀ {vs : List V} {ds : List D} {F : List Addr}, Owns K cl W H vs ds F → Keep W W' F H H' → Owns K cl W' H' vs ds F
  | _, _, _, .nil, _ => .nil
  | _, _, _, .cons h hs, k => .cons (Own.keep h k.app1) (Owns.keep hs k.app2)
end
theorem Keep.same (e : Same H H') {F : List Addr} : Keep W W F H H' := ⟨fun a _ o h => e _ _ h, fun a o _ h => e _ _ h, fun a vs h => e _ _ h, fun a o u h => e _ _ h, fun a h _ => h⟩
theorem Own.mono {v : V} {d : D} {F : List Addr} (e : Same H H') (h : Own K cl W H v d F) : Own K cl W H' v d F := h.keep (Keep.same e)
theorem Owns.mono {vs : List V} {ds : List D} {F : List Addr} (e : Same H H') (h : Owns K cl W H vs ds F) : Owns K cl W H' vs ds F := h.keep (Keep.same e)
mutual
/-- what may be handed on has no own part -/
theorem Own.sh : ∀ {v : V} {d : D} {F : List Addr}, Own K cl W H v d F → d.sh = true → F = []
  | _, _, _, .non, _ => rfl
  | _, _, _, .bl b, _ => rfl
  | _, _, _, .int i, _ => rfl
  | _, _, _, .str x, _ => rfl
  | _, _, _, .tup h hs, e => Owns.sh hs e
  | _, _, _, .lstO h hs, e => nomatch e
  | _, _, _, .lstF h hn hs, _ => rfl
  | _, _, _, .scr _ _, _ => rfl
  | _, _, _, .scrK _, _ => rfl
  | _, _, _, .dicO h _ hs, e => nomatch e
  | _, _, _, .dicF h hn _ hs, _ => rfl
  | _, _, _, .dtO h _ hs, e => nomatch e
  | _, _, _, .dtF h hn _ hs, _ => rfl
  | _, _, _, .objO h _ hs, e => nomatch e
  | _, _, _, .objF h hn _ hs, _ => rfl
  | _, _, _, .hole v, _ => rfl
theorem Owns.sh : ∀ {vs : List V} {ds : List D} {F : List Addr}, Owns K cl W H vs ds F → D.shs ds = true → F = []
  | _, _, _, .nil, _ => rfl
  | _, _, _, .cons h hs, e => by
    have e' : (_ && _) = true := e
    rw [Bool.and_eq_true] at e'
    rw [Own.sh h e'.1, Owns.sh hs e'.2]
    rfl
end
theorem Owns.length : ∀ {vs : List V} {ds : List D} {F : List Addr}, Owns K cl W H vs ds F → vs.length = ds.length
  | _, _, _, .nil => rfl
  | _, _, _, .cons _ hs => by rw [List.length_cons, List.length_cons, Owns.length hs]
theorem Owns.get : ∀ {vs : List V} {ds : List D} {F : List Addr} {i : Nat} {d : D}, Owns K cl W H vs ds F → ds[i]? = some d → ∃ v G, vs[i]? = some v ∧ Own K cl W H v d G ∧ ∀ a ∈ G, a ∈ F
  | _, _, _, _, _, .nil, e => by simp at e
  | _, _, _, 0, _, .cons h hs, e => by
    simp at e
    subst e
    exact ⟨_, _, rfl, h, fun a ha => List.mem_append_left _ ha⟩
  | _, _, _, i + 1, d, .cons h hs, e => by
    obtain ⟨v, G, e1, h1, h2⟩ := Owns.get (i := i) (d := d) hs (by simpa using e)
    exact ⟨v, G, by simpa using e1, h1, fun a ha => List.mem_append_right _ (h2 a ha)⟩
theorem Owns.append : ∀ {vs ws : List V} {ds es : List D} {F G : List Addr}, Owns K cl W H vs ds F → Owns K cl W H ws es G → Owns K cl W H (vs ++ ws) (ds ++ es) (F ++ G)
  | _, _, _, _, _, _, .nil, h2 => h2
  | _, _, _, _, _, _, .cons h hs, h2 => by
    have := Owns.append hs h2
    rw [List.append_assoc]
    exact .cons h this
theorem Owns.dropN : ∀ {vs : List V} {ds : List D} {F : List Addr} (n : Nat), Owns K cl W H vs ds F → D.shs ds = true → Owns K cl W H (vs.drop n) (ds.drop n) []
  | _, _, F, 0, h, e => by
    have := h.sh e
    subst this
    exact h
  | _, _, _, n + 1, .nil, _ => .nil
  | _, _, _, n + 1, .cons h hs, e => by
    have e' : (_ && _) = true := e
    rw [Bool.and_eq_true] at e'
    exact Owns.dropN n hs e'.2
theorem shs_drop : ∀ (n : Nat) (ds : List D), D.shs ds = true → D.shs (ds.drop n) = true
  | 0, _, h => h
  | _ + 1, [], h => h
  | n + 1, d :: ds, h => by
    have e' : (_ && _) = true := h
    rw [Bool.and_eq_true] at e'
    exact shs_drop n ds e'.2
theorem shs_take : ∀ (n : Nat) (ds : List D), D.shs ds = true → D.shs (ds.take n) = true
  | 0, _, h => rfl
  | _ + 1, [], h => h
  | n + 1, d :: ds, h => by
    have e' : (_ && _) = true := h
    rw [Bool.and_eq_true] at e'
    show (d.sh && D.shs (ds.take n)) = true
    rw [e'.1, shs_take n ds e'.2]
    rfl
theorem Owns.takeN : ∀ {vs : List V} {ds : List D} {F : List Addr} (n : Nat), Owns K cl W H vs ds F → D.shs ds = true → Owns K cl W H (vs.take n) (ds.take n) []
  | _, _, _, 0, h, e => .nil
  | _, _, _, n + 1, .nil, _ => .nil
  | _, _, _, n + 1, .cons h hs, e => by
    have e' : (_ && _) = true := e
    rw [Bool.and_eq_true] at e'
    have h1 := h.sh e'.1
    subst h1
    exact Owns.cons (F := []) (G := []) h (Owns.takeN n hs e'.2)
theorem Owns.shs {vs : List V} {ds : List D} {F : List Addr} (h : Owns K cl W H vs ds F) (e : D.shs ds = true) : Owns K cl W H vs ds [] := by
  have := h.sh e
  subst this
  exact h
theorem Owns.rep {vs : List V} {ds : List D} (h : Owns K cl W H vs ds []) : ∀ k : Nat, Owns K cl W H (List.replicate k vs).flatten (List.replicate k ds).flatten []
  | 0 => .nil
  | k + 1 => by
    rw [List.replicate_succ, List.replicate_succ, List.flatten_cons, List.flatten_cons]
    exact Owns.append (F := []) (G := []) h (Owns.rep h k)
mutual
/-- lent: frozen for as long -/
theorem Own.fz : ∀ {v : V} {d : D} {F : List Addr} (W' : List Addr), Own K cl W H v d F → (∀ a, H a ≠ none → a ∉ W → a ∉ W') → (∀ a ∈ F, a ∉ W') → Own K cl W' H v d.fz []
  | _, _, _, W', .non, _, _ => .non
  | _, _, _, W', .bl b, _, _ => .bl b
  | _, _, _, W', .int i, _, _ => .int i
  | _, _, _, W', .str x, _, _ => .str x
  | _, _, _, W', .tup h hs, k, f => .tup h (Owns.fz W' hs k f)
  | _, _, _, W', .lstO h hs, k, f => .lstF h (f _ List.mem_cons_self) (Owns.fz W' hs k fun a ha => f a (List.mem_cons_of_mem _ ha))
  | _, _, _, W', .scr h hn, k, f => .scr h (k _ (rd_some h) hn)
  | _, _, _, W', .scrK h, _, _ => .scrK h
  | _, _, _, W', .lstF h hn hs, k, f => .lstF h (k _ (by rw [h]; simp) hn) (hs.keep ⟨(fun _ ha => nomatch ha), fun a o _ q => q, fun a o q => q, fun a o u q => q, fun a h1 h2 => k a h2 h1⟩)
  | _, _, _, W', .dicO (ds := ds) h e hs, k, f => by
    refine .dicF h (f _ List.mem_cons_self) (ds := D.fzk ds) ?_ ?_
    · rw [e, fzk_fst]
    · rw [fzk_snd]
      exact Owns.fz W' hs k fun a ha => f a (List.mem_cons_of_mem _ ha)
  | _, _, _, W', .dicF h hn e hs, k, f => .dicF h (k _ (by rw [h]; simp) hn) e (hs.keep ⟨(fun _ ha => nomatch ha), fun a o _ q => q, fun a o q => q, fun a o u q => q, fun a h1 h2 => k a h2 h1⟩)
  | _, _, _, W', .dtO (ds := ds) h e hs, k, f => by
    refine .dtF h (f _ List.mem_cons_self) (ds := D.fzk ds) ?_ ?_
    · rw [e, fzk_fst]
    · rw [fzk_snd]
      exact Owns.fz W' hs k fun a ha => f a (List.mem_cons_of_mem _ ha)
  | _, _, _, W', .dtF h hn e hs, k, f => .dtF h (k _ (by rw [h]; simp) hn) e (hs.keep ⟨(fun _ ha => nomatch ha), fun a o _ q => q, fun a o q => q, fun a o u q => q, fun a h1 h2 => k a h2 h1⟩)
  | _, _, _, W', .objO (ds := ds) h e hs, k, f => by
    refine .objF h (f _ List.mem_cons_self) (ds := D.fzf ds) ?_ ?_
    · rw [e, fzf_fst]
    · rw [fzf_snd]
      exact Owns.fz W' hs k fun a ha => f a (List.mem_cons_of_mem _ ha)
  | _, _, _, W', .objF h hn e hs, k, f => .objF h (k _ (by rw [h]; simp) hn) e (hs.keep ⟨(fun _ ha => nomatch ha), fun a o _ q => q, fun a o q => q, fun a o u q => q, fun a h1 h2 => k a h2 h1⟩)
  | _, _, _, W', .hole v, _, _ => .hole v
theorem Owns.fz : ∀ {vs : List V} {ds : List D} {F : List Addr} (W' : List Addr), Owns K cl W H vs ds F → (∀ a, H a ≠ none → a ∉ W → a ∉ W') → (∀ a ∈ F, a ∉ W') → Owns K cl W' H vs (D.fzs ds) []
  | _, _, _, W', .nil, _, _ => .nil
  | _, _, _, W', .cons h hs, k, f => Owns.cons (F := []) (G := []) (Own.fz W' h k fun a ha => f a (List.mem_append_left _ ha)) (Owns.fz W' hs k fun a ha => f a (List.mem_append_right _ ha))
theorem fzk_fst : ∀ ds : List (D × D), (D.fzk ds).map (·.1) = ds.map (·.1)
  | [] => rfl
  | (k, x) :: r => by show k :: _ = k :: _; rw [fzk_fst r]
theorem fzk_snd : ∀ ds : List (D × D), (D.fzk ds).map (·.2) = D.fzs (ds.map (·.2))
  | [] => rfl
  | (k, x) :: r => by show x.fz :: _ = x.fz :: _; rw [fzk_snd r]
theorem fzf_fst : ∀ ds : List (Str × D), (D.fzf ds).map (·.1) = ds.map (·.1)
  | [] => rfl
  | (k, x) :: r => by show k :: _ = k :: _; rw [fzf_fst r]
theorem fzf_snd : ∀ ds : List (Str × D), (D.fzf ds).map (·.2) = D.fzs (ds.map (·.2))
  | [] => rfl
  | (k, x) :: r => by show x.fz :: _ = x.fz :: _; rw [fzf_snd r]
end
end
end Tg

namespace Tg
open PySem PySem.Spec L2
section
variable {K : PySem.W.Frag} {cl : Nat → Addr} {W W' : List Addr} {H H' : Hp}
mutual
/-- what has no frozen part -/
theorem Own.nf : ∀ {v : V} {d : D} {F : List Addr} (W' : List Addr), Own K cl W H v d F → d.nf = true → Own K cl W' H v d F
  | _, _, _, W', .scr h hn, e => nomatch e
  | _, _, _, W', .scrK h, e => nomatch e
  | _, _, _, W', .non, _ => .non
  | _, _, _, W', .bl b, _ => .bl b
  | _, _, _, W', .int i, _ => .int i
  | _, _, _, W', .str x, _ => .str x
  | _, _, _, W', .tup h hs, e => .tup h (Owns.nf W' hs e)
  | _, _, _, W', .lstO h hs, e => .lstO h (Owns.nf W' hs (by have e' : (true && _) = true := e; rwa [Bool.true_and] at e'))
  | _, _, _, W', .lstF h hn hs, e => nomatch e
  | _, _, _, W', .dicO (ds := ds) h e hs, q => .dicO h e (Owns.nf W' hs (by have e' : (true && _) = true := q; rw [Bool.true_and, nfk_eq] at e'; exact e'))
  | _, _, _, W', .dicF h hn e hs, q => nomatch q
  | _, _, _, W', .dtO (ds := ds) h e hs, q => .dtO h e (Owns.nf W' hs (by have e' : (true && _) = true := q; rw [Bool.true_and, nfk_eq] at e'; exact e'))
  | _, _, _, W', .dtF h hn e hs, q => nomatch q
  | _, _, _, W', .objO (ds := ds) h e hs, q => .objO h e (Owns.nf W' hs (by have e' : (true && _) = true := q; rw [Bool.true_and, nff_eq] at e'; exact e'))
  | _, _, _, W', .objF h hn e hs, q => nomatch q
  | _, _, _, W', .hole v, _ => .hole v
theorem Owns.nf : ∀ {vs : List V} {ds : List D} {F : List Addr} (W' : List Addr), Owns K cl W H vs ds F → D.nfs ds = true → Owns K cl W' H vs ds F
  | _, _, _, W', .nil, _ => .nil
  | _, _, _, W', .cons h hs, e => by
    have e' : (_ && _) = true := e
    rw [Bool.and_eq_true] at e'
    exact .cons (Own.nf W' h e'.1) (Owns.nf W' hs e'.2)
theorem nfk_eq : ∀ ds : List (D × D), D.nfk ds = D.nfs (ds.map (·.2))
  | [] => rfl
  | (k, x) :: r => by show (x.nf && _) = (x.nf && _); rw [nfk_eq r]
theorem nff_eq : ∀ ds : List (Str × D), D.nff ds = D.nfs (ds.map (·.2))
  | [] => rfl
  | (k, x) :: r => by show (x.nf && _) = (x.nf && _); rw [nff_eq r]
end

/-! ### the frame's names -/
structure EV (K : PySem.W.Frag) (cl : Nat → Addr) (W : List Addr) (H : Hp) (σ : St) (env : Env) : Prop where
  len : σ.length = env.length
  at_ : ∀ (i : Nat) (d : D), env[i]? = some d → d ≠ .hole → ∃ v F, σ[i]? = some (some v) ∧ Own K cl W H v d F
theorem EV.mono {σ : St} {env : Env} (e : Same H H') (h : EV K cl W H σ env) : EV K cl W H' σ env := ⟨h.len, fun i d h1 h2 => by
  obtain ⟨v, F, h3, h4⟩ := h.at_ i d h1 h2
  exact ⟨v, F, h3, h4.mono e⟩⟩
theorem EV.set {σ : St} {env : Env} {v : V} {d : D} {F : List Addr} (h : EV K cl W H σ env) (i : Nat) (o : Own K cl W H v d F) : EV K cl W H (σ.set i (some v)) (env.set i d) := by
  refine ⟨by rw [List.length_set, List.length_set]; exact h.len, fun j e h1 h2 => ?_⟩
  by_cases hj : i = j
  · subst hj
    have hl : i < env.length := by
      have := (List.getElem?_eq_some_iff.mp h1).1
      rwa [List.length_set] at this
    rw [List.getElem?_set_self hl] at h1
    cases h1
    exact ⟨v, F, by rw [List.getElem?_set_self (by rw [h.len]; exact hl)], o⟩
  · rw [List.getElem?_set_ne hj] at h1
    obtain ⟨u, G, h3, h4⟩ := h.at_ j e h1 h2
    exact ⟨u, G, by rw [List.getElem?_set_ne hj]; exact h3, h4⟩
/-- what W tells stands in the heap -/
def VD (W : List Addr) (H : Hp) : Prop := ∀ a ∈ W, H a ≠ none
theorem VD.mono (h : VD W H) (e : Same H H') : VD W H' := fun a ha q => by
  cases h1 : H a with
  | none => exact h a ha h1
  | some o =>
    rw [e a o h1] at q
    cases q
theorem Same.back (e : Same H H') {a : Addr} (h : H' a = none) : H a = none := Same.free e h
theorem same_new {p : Addr} {o : HO} (h : H p = none) : Same H (upd H p o) := fun a u e => by
  rw [upd_ne (ne_of_none e h)]
  exact e
end

/-- what is avoided: less; and more, where that is new -/
theorem Keep.re {K : PySem.W.Frag} {W W' F : List Addr} {H : Hp} (h : ∀ a, a ∉ W → H a ≠ none → a ∉ W') : Keep W W' F H H := ⟨fun a _ o q => q, fun a o _ q => q, fun a vs q => q, fun a o u q => q, h⟩
section
variable {K : PySem.W.Frag} {cl : Nat → Addr} {W W' G : List Addr} {H H' : Hp}
theorem Own.weak {v : V} {d : D} {F : List Addr} (o : Own K cl W H v d F) (h : ∀ a ∈ W', a ∈ W) : Own K cl W' H v d F := o.keep (Keep.re (K := K) fun a ha _ z => ha (h a z))
theorem Owns.weak {vs : List V} {ds : List D} {F : List Addr} (o : Owns K cl W H vs ds F) (h : ∀ a ∈ W', a ∈ W) : Owns K cl W' H vs ds F := o.keep (Keep.re (K := K) fun a ha _ z => ha (h a z))
theorem Own.grow {v : V} {d : D} {F : List Addr} (o : Own K cl W H v d F) (h : ∀ a ∈ W', a ∈ W ∨ H a = none) : Own K cl W' H v d F := o.keep (Keep.re (K := K) fun a ha hn z => (h a z).elim ha hn)
theorem Owns.grow {vs : List V} {ds : List D} {F : List Addr} (o : Owns K cl W H vs ds F) (h : ∀ a ∈ W', a ∈ W ∨ H a = none) : Owns K cl W' H vs ds F := o.keep (Keep.re (K := K) fun a ha hn z => (h a z).elim ha hn)
/-- .. and the heap grows -/
theorem Owns.growS {vs : List V} {ds : List D} {F : List Addr} (o : Owns K cl W H vs ds F) (s : Same H H') (h : ∀ a ∈ W', a ∈ W ∨ H a = none) : Owns K cl W' H' vs ds F := (o.grow h).mono s
theorem Own.growS {v : V} {d : D} {F : List Addr} (o : Own K cl W H v d F) (s : Same H H') (h : ∀ a ∈ W', a ∈ W ∨ H a = none) : Own K cl W' H' v d F := (o.grow h).mono s
theorem EV.grow {σ : St} {env : Env} (e : EV K cl W H σ env) (h : ∀ a ∈ W', a ∈ W ∨ H a = none) : EV K cl W' H σ env := ⟨e.len, fun i d h1 h2 => by
  obtain ⟨v, F, h3, h4⟩ := e.at_ i d h1 h2
  exact ⟨v, F, h3, h4.grow h⟩⟩
end
/-! ### what is to be shown of an expression -/
def wE (X : Cx) (e : Expr) : TE := fun σ H Q => ∀ (pins : List (Addr × Obj)) (s : Shared), Inv X pins σ H s → wpAny (model X.prog X.w) X.A (eval e X.env) (EP X pins σ Q) X.xe s
theorem pe_w {X : Cx} {e : Expr} : PE X e (wE X e) := ⟨fun pins s σ H Q I h => h pins s I⟩
theorem wE.of {X : Cx} {e : Expr} {t : TE} (h : PE X e t) {σ : St} {H : Hp} {Q : VK} (q : t σ H Q) : wE X e σ H Q := fun pins s I => h.run pins s σ H Q I q
/-- looked at -/
structure Pk (X : Cx) (cl : Nat → Addr) (e : Expr) (f : EE) : Prop where
  run : ∀ (W : List Addr) (env : Env) (d : D), f env = some d → ∀ (σ : St) (H : Hp), EV X.K cl W H σ env → VD W H → ∀ Q : VK, (∀ v H' F, Same H H' → Own X.K cl W H' v d F → Q v H') → wE X e σ H Q
/-- handed on -/
structure Se (X : Cx) (cl : Nat → Addr) (e : Expr) (f : EE) : Prop where
  run : ∀ (W : List Addr) (env : Env) (d : D), f env = some d → ∀ (σ : St) (H : Hp), EV X.K cl W H σ env → VD W H → ∀ Q : VK,
    (∀ v H' F, Same H H' → Own X.K cl (F ++ W) H' v d F → F.Nodup → (∀ a ∈ F, H a = none) → Q v H') → wE X e σ H Q
def wA (X : Cx) (es : List Expr) : TA := fun σ H Q => ∀ (pos : Pos) (pins : List (Addr × Obj)) (s : Shared), Inv X pins σ H s → wpAny (model X.prog X.w) X.A (spliced (backTo pos (starEach es X.env))) (AP X pins σ Q) X.xe s
theorem pa_w {X : Cx} {es : List Expr} : PA X es (wA X es) := ⟨fun pos pins s σ H Q I h => h pos pins s I⟩
theorem wA.of {X : Cx} {es : List Expr} {t : TA} (h : PA X es t) {σ : St} {H : Hp} {Q : List V → Hp → Prop} (q : t σ H Q) : wA X es σ H Q := fun pos pins s I => h.run pos pins s σ H Q I q
structure Sa (X : Cx) (cl : Nat → Addr) (es : List Expr) (f : EA) : Prop where
  run : ∀ (W : List Addr) (env : Env) (ds : List D), f env = some ds → ∀ (σ : St) (H : Hp), EV X.K cl W H σ env → VD W H → ∀ Q : List V → Hp → Prop,
    (∀ vs H' F, Same H H' → Owns X.K cl (F ++ W) H' vs ds F → F.Nodup → (∀ a ∈ F, H a = none) → Q vs H') → wA X es σ H Q
/-- .. looked at -/
structure Pa (X : Cx) (cl : Nat → Addr) (es : List Expr) (f : EA) : Prop where
  run : ∀ (W : List Addr) (env : Env) (ds : List D), f env = some ds → ∀ (σ : St) (H : Hp), EV X.K cl W H σ env → VD W H → ∀ Q : List V → Hp → Prop,
    (∀ vs H' F, Same H H' → Owns X.K cl W H' vs ds F → Q vs H') → wA X es σ H Q

section
variable {X : Cx} {cl : Nat → Addr} {a b c e : Expr} {f g h : EE} {pos : Pos}
theorem Se.pk (h : Se X cl e f) : Pk X cl e f := ⟨fun W env d e σ H E V Q q => h.run W env d e σ H E V Q fun v H' F s o _ _ => q v H' F s (o.weak fun a ha => List.mem_append_right _ ha)⟩
/-- a path where it is handed on -/
theorem Pk.se (h : Pk X cl e f) : Se X cl e (eSh f) := by
  refine ⟨fun W env d q σ H E V Q k => ?_⟩
  unfold eSh at q
  cases h1 : f env with
  | none => rw [h1] at q; cases q
  | some d' =>
    rw [h1] at q
    have q' : (if d'.sh then some d' else none) = some d := q
    by_cases hs : d'.sh = true
    · rw [if_pos hs] at q'
      cases q'
      refine h.run W env _ h1 σ H E V Q fun v H' F s o => ?_
      have := o.sh hs
      subst this
      exact k v H' [] s o List.nodup_nil (fun _ z => nomatch z)
    · rw [if_neg hs] at q'
      cases q'
theorem pk_var (i : Nat) {x : Str} (hN : X.N[i]? = some x := by rfl) (hv : Vis X.env.scope x := by first | exact Or.inl rfl | exact Or.inr (Or.inl rfl) | exact Or.inr (Or.inr rfl)) (hd : (x == ("__debug__" : Str)) = false := by decide)
    (hcd : (x == ("__classdict__" : Str)) = false := by decide) : Pk X cl (.Name x pos) (eVar i) := by
  refine ⟨fun W env d q σ H E V Q k => ?_⟩
  unfold eVar at q
  have h1 : env[i]? = some d ∧ d ≠ .hole := by
    split at q
    · cases q
    · rename_i e1 e2
      cases q
      exact ⟨e2, fun z => e1 z⟩
    · cases q
  obtain ⟨v, F, h3, h4⟩ := E.at_ i d h1.1 h1.2
  exact wE.of (pe_var hN hv hd hcd) ⟨v, h3, k v H F (Same.refl H) h4⟩
/-- a constant -/
theorem se_c {v : V} {d : D} (hp : PE X e (tC v)) (ho : ∀ W H, Own X.K cl W H v d []) : Se X cl e (eC d) := by
  refine ⟨fun W env d' q σ H E V Q k => ?_⟩
  cases q
  exact wE.of hp (k v H [] (Same.refl H) (ho W H) List.nodup_nil (fun _ z => nomatch z))
theorem se_int {i : Int} {j} : Se X cl (.Constant (.int i) j pos) (eC (.int i)) := se_c pe_int fun _ _ => .int i
theorem se_bl {i : Bool} {j} : Se X cl (.Constant (.bool i) j pos) (eC (.bl i)) := se_c pe_bl fun _ _ => .bl i
theorem se_non {j} : Se X cl (.Constant .none j pos) (eC .non) := se_c pe_non fun _ _ => .non
theorem ownStr {K : PySem.W.Frag} {W : List Addr} {H : Hp} (x : Str) : Own K cl W H (.str x) (.str x.cps.toList) [] := by
  have : x = ⟨x.cps.toList.toArray⟩ := by cases x; simp
  have h := Own.str (K := K) (cl := cl) (W := W) (H := H) x.cps.toList
  rw [← this] at h
  exact h
theorem se_str {x : Str} {l : List Nat} {j} (hl : x.cps.toList = l := by decide +kernel) : Se X cl (.Constant (.str x) j pos) (eC (.str l)) := by
  subst hl
  exact se_c pe_str fun _ _ => ownStr x
/-- a module's number, text -/
theorem se_gint {x : Str} {i : Int} {t : Tok} (hg : Gl X x) (hm : X.mg x = some (.int i t)) (hd : (x == ("__debug__" : Str)) = false := by decide) : Se X cl (.Name x pos) (eC (.int i)) := se_c (pe_glob (v := .int i) hg hm ⟨t, rfl⟩ hd) fun _ _ => .int i
theorem se_gstr {x z : Str} {l : List Nat} {t : Tok} (hg : Gl X x) (hm : X.mg x = some (.str z t)) (hl : z.cps.toList = l := by decide +kernel) (hd : (x == ("__debug__" : Str)) = false := by decide) : Se X cl (.Name x pos) (eC (.str l)) := by
  subst hl
  exact se_c (pe_glob (v := .str z) hg hm ⟨t, rfl⟩ hd) fun _ _ => ownStr z
/-! ### argument lists, displays -/
theorem sa_nil : Sa X cl [] eNil := ⟨fun W env ds q σ H E V Q k => by
  cases q
  exact wA.of pa_nil (k [] H [] (Same.refl H) .nil List.nodup_nil (fun _ z => nomatch z))⟩
theorem pa_nil' : Pa X cl [] eNil := ⟨fun W env ds q σ H E V Q k => by
  cases q
  exact wA.of pa_nil (k [] H [] (Same.refl H) .nil)⟩
theorem fresh_join {H H1 : Hp} {F G : List Addr} (s : Same H H1) (hF : F.Nodup) (hG : G.Nodup) (tF : ∀ a ∈ F, H1 a ≠ none) (nG : ∀ a ∈ G, H1 a = none) : (F ++ G).Nodup := by
  rw [List.nodup_append]
  exact ⟨hF, hG, fun a ha b hb e => tF a ha (by rw [e]; exact nG b hb)⟩
mutual
theorem Own.tracked {K : PySem.W.Frag} {W : List Addr} {H : Hp} : ∀ {v : V} {d : D} {F : List Addr}, Own K cl W H v d F → ∀ a ∈ F, H a ≠ none
  | _, _, _, .non, _, h => nomatch h
  | _, _, _, .bl b, _, h => nomatch h
  | _, _, _, .int i, _, h => nomatch h
  | _, _, _, .str x, _, h => nomatch h
  | _, _, _, .tup h hs, a, ha => Owns.tracked hs a ha
  | _, _, _, .lstO h hs, a, ha => by
    rcases List.mem_cons.mp ha with e | ha
    · rw [e, h]; simp
    · exact Owns.tracked hs a ha
  | _, _, _, .lstF h hn hs, _, z => nomatch z
  | _, _, _, .scr h _, _, z => nomatch z
  | _, _, _, .scrK h, _, z => nomatch z
  | _, _, _, .dicO h _ hs, a, ha => by
    rcases List.mem_cons.mp ha with e | ha
    · rw [e, h]; simp
    · exact Owns.tracked hs a ha
  | _, _, _, .dicF h hn _ hs, _, z => nomatch z
  | _, _, _, .dtO h _ hs, a, ha => by
    rcases List.mem_cons.mp ha with e | ha
    · rw [e, h]; simp
    · exact Owns.tracked hs a ha
  | _, _, _, .dtF h hn _ hs, _, z => nomatch z
  | _, _, _, .objO h _ hs, a, ha => by
    rcases List.mem_cons.mp ha with e | ha
    · rw [e, h]; simp
    · exact Owns.tracked hs a ha
  | _, _, _, .objF h hn _ hs, _, z => nomatch z
  | _, _, _, .hole v, _, h => nomatch h
theorem Owns.tracked {K : PySem.W.Frag} {W : List Addr} {H : Hp} : ∀ {vs : List V} {ds : List D} {F : List Addr}, Owns K cl W H vs ds F → ∀ a ∈ F, H a ≠ none
  | _, _, _, .nil, _, h => nomatch h
  | _, _, _, .cons h hs, a, ha => (List.mem_append.mp ha).elim (Own.tracked h a) (Owns.tracked hs a)
end
theorem sa_cons {es : List Expr} {fs : EA} (h1 : Se X cl e f) (h2 : Sa X cl es fs) (hs : starEach (e :: es) X.env = (false, eval e X.env) :: starEach es X.env := by rfl) : Sa X cl (e :: es) (eCons f fs) := by
  refine ⟨fun W env ds q σ H E V Q k => ?_⟩
  unfold eCons at q
  cases e1 : f env with
  | none => rw [e1] at q; cases q
  | some d =>
    rw [e1] at q
    cases e2 : fs env with
    | none => rw [Option.bind_some, e2] at q; cases q
    | some dr =>
      rw [Option.bind_some, e2] at q
      cases q
      refine wA.of (pa_cons pe_w pa_w hs) ?_
      refine h1.run W env d e1 σ H E V _ fun v H1 F s1 o1 n1 f1 => ?_
      have V1 : VD (F ++ W) H1 := fun a ha => (List.mem_append.mp ha).elim (o1.tracked a) (V.mono s1 a)
      refine h2.run (F ++ W) env dr e2 σ H1 ((E.grow fun a ha => (List.mem_append.mp ha).elim (fun z => .inr (f1 a z)) .inl).mono s1) V1 _ fun vs H2 G s2 o2 n2 f2 => ?_
      refine k (v :: vs) H2 (F ++ G) (s1.trans s2) (.cons (o1.growS s2 fun a ha => ?_) (o2.weak fun a ha => ?_)) (fresh_join s1 n1 n2 o1.tracked f2) fun a ha => ?_
      · rcases List.mem_append.mp ha with ha | ha
        · rcases List.mem_append.mp ha with ha | ha
          · exact .inl (List.mem_append_left _ ha)
          · exact .inr (f2 a ha)
        · exact .inl (List.mem_append_right _ ha)
      · rcases List.mem_append.mp ha with ha | ha
        · rcases List.mem_append.mp ha with ha | ha
          · exact List.mem_append_right _ (List.mem_append_left _ ha)
          · exact List.mem_append_left _ ha
        · exact List.mem_append_right _ (List.mem_append_right _ ha)
      rcases List.mem_append.mp ha with ha | ha
      · exact f1 a ha
      · exact Same.back s1 (f2 a ha)
theorem pa_cons' {es : List Expr} {fs : EA} (h1 : Pk X cl e f) (h2 : Pa X cl es fs) (hs : starEach (e :: es) X.env = (false, eval e X.env) :: starEach es X.env := by rfl) : Pa X cl (e :: es) (eCons f fs) := by
  refine ⟨fun W env ds q σ H E V Q k => ?_⟩
  unfold eCons at q
  cases e1 : f env with
  | none => rw [e1] at q; cases q
  | some d =>
    rw [e1] at q
    cases e2 : fs env with
    | none => rw [Option.bind_some, e2] at q; cases q
    | some dr =>
      rw [Option.bind_some, e2] at q
      cases q
      refine wA.of (pa_cons pe_w pa_w hs) ?_
      refine h1.run W env d e1 σ H E V _ fun v H1 F s1 o1 => ?_
      refine h2.run W env dr e2 σ H1 (E.mono s1) (V.mono s1) _ fun vs H2 G s2 o2 => ?_
      exact k (v :: vs) H2 (F ++ G) (s1.trans s2) (.cons (o1.mono s2) o2)
theorem EA_len {es : List Expr} {fs : EA} (h2 : Sa X cl es fs) : True := trivial
theorem se_tup {es : List Expr} {fs : EA} {x1} (h : Sa X cl es fs) (hl : ∀ env ds, fs env = some ds → ds.length ≤ 1000) : Se X cl (.Tuple es x1 pos) (eTup fs) := by
  refine ⟨fun W env d q σ H E V Q k => ?_⟩
  unfold eTup at q
  cases e1 : fs env with
  | none => rw [e1] at q; cases q
  | some ds =>
    rw [e1] at q
    cases q
    refine wE.of (pe_tup pa_w) ?_
    refine h.run W env ds e1 σ H E V _ fun vs H1 F s1 o1 n1 f1 => ?_
    refine ⟨by rw [o1.length]; exact Nat.le_trans (hl env ds e1) (by rw [sizeLine_eq]; decide), fun p hp => ?_⟩
    exact k _ _ F (s1.trans (same_new hp)) (.tup upd_same (o1.mono (same_new hp))) n1 f1
theorem se_lst {es : List Expr} {fs : EA} (h : Sa X cl es fs) (hl : ∀ env ds, fs env = some ds → ds.length ≤ 1000) : Se X cl (.List es pos) (eLst fs) := by
  refine ⟨fun W env d q σ H E V Q k => ?_⟩
  unfold eLst at q
  cases e1 : fs env with
  | none => rw [e1] at q; cases q
  | some ds =>
    rw [e1] at q
    cases q
    refine wE.of (pe_lst pa_w) ?_
    refine h.run W env ds e1 σ H E V _ fun vs H1 F s1 o1 n1 f1 => ?_
    refine ⟨by rw [o1.length]; exact Nat.le_trans (hl env ds e1) (by rw [sizeLine_eq]; decide), fun p hp => ?_⟩
    refine k _ _ (p :: F) (s1.trans (same_new hp)) (.lstO upd_same (o1.growS (same_new hp) fun a ha => (List.mem_cons.mp ha).elim (fun z => .inr (by rw [z]; exact hp)) .inl)) (List.nodup_cons.mpr ⟨fun hm => o1.tracked p hm hp, n1⟩) fun a ha => ?_
    rcases List.mem_cons.mp ha with e | ha
    · rw [e]; exact Same.back s1 hp
    · exact f1 a ha
end
end Tg

namespace Tg
open PySem PySem.Spec L2
/-! ### inversion -/
section
variable {K : PySem.W.Frag} {cl : Nat → Addr} {W : List Addr} {H : Hp} {v : V} {F : List Addr}
theorem own_int {i : Int} (h : Own K cl W H v (.int i) F) : v = .int i := by cases h; rfl
theorem own_bl {i : Bool} (h : Own K cl W H v (.bl i) F) : v = .bl i := by cases h; rfl
theorem own_non (h : Own K cl W H v .non F) : v = .non := by cases h; rfl
theorem own_str {x : List Nat} (h : Own K cl W H v (.str x) F) : v = .str ⟨x.toArray⟩ := by cases h; rfl
theorem own_tup {ds : List D} (h : Own K cl W H v (.tup ds) F) : ∃ a vs, v = .ref a ∧ SqT K H a vs ∧ Owns K cl W H vs ds F := by
  cases h with
  | tup h hs => exact ⟨_, _, rfl, SqT.of h, hs⟩
theorem own_tupH {ds : List D} (h : Own K cl W H v (.tup ds) F) : ∃ a vs, v = .ref a ∧ H a = some (.tup vs) ∧ Owns K cl W H vs ds F := by
  cases h with
  | tup h hs => exact ⟨_, _, rfl, h, hs⟩
theorem own_lst {o : Bool} {ds : List D} (h : Own K cl W H v (.lst o ds) F) : ∃ a vs G, v = .ref a ∧ H a = some (.lst vs) ∧ Owns K cl W H vs ds G ∧ ∀ b ∈ G, b ∈ F := by
  cases h with
  | lstO h hs => exact ⟨_, _, _, rfl, h, hs, fun b hb => List.mem_cons_of_mem _ hb⟩
  | lstF h hn hs => exact ⟨_, _, _, rfl, h, hs, fun b hb => hb⟩
theorem own_scr {ns : List Int} (h : Own K cl W H v (.scr ns) F) : ∃ a, v = .ref a ∧ SqL K H a (ns.map V.int) := by
  cases h with
  | scr h hn => exact ⟨_, rfl, .inl h⟩
  | scrK h => exact ⟨_, rfl, .inr h⟩
theorem own_ints {ns : List Int} : Owns K cl W H (ns.map V.int) (ns.map D.int) [] := by
  induction ns with
  | nil => exact .nil
  | cons n r ih => exact Owns.cons (F := []) (G := []) (.int n) ih
end
/-- what follows an operation -/
abbrev Po (K : PySem.W.Frag) (cl : Nat → Addr) (W : List Addr) (H : Hp) (d : D) (Q : VK) : Prop := ∀ v H' F, Same H H' → Own K cl (F ++ W) H' v d F → F.Nodup → (∀ a ∈ F, H a = none) → Q v H'
abbrev Pp (K : PySem.W.Frag) (cl : Nat → Addr) (W : List Addr) (H : Hp) (d : D) (Q : VK) : Prop := ∀ v H' F, Same H H' → Own K cl W H' v d F → Q v H'
section
variable {K : PySem.W.Frag} {cl : Nat → Addr} {W : List Addr} {H : Hp} {Q : VK}
theorem Po.int {i : Int} (k : Po K cl W H (.int i) Q) : Q (.int i) H := k _ _ [] (Same.refl H) (.int i) List.nodup_nil (fun _ z => nomatch z)
theorem Po.bl {i : Bool} (k : Po K cl W H (.bl i) Q) : Q (.bl i) H := k _ _ [] (Same.refl H) (.bl i) List.nodup_nil (fun _ z => nomatch z)
theorem Po.str {x : List Nat} (k : Po K cl W H (.str x) Q) : Q (.str ⟨x.toArray⟩) H := k _ _ [] (Same.refl H) (.str x) List.nodup_nil (fun _ z => nomatch z)
theorem Po.str' {x : Str} {l : List Nat} (e : x.cps.toList = l) (k : Po K cl W H (.str l) Q) : Q (.str x) H := by
  subst e
  exact k _ _ [] (Same.refl H) (ownStr x) List.nodup_nil (fun _ z => nomatch z)
theorem Po.lst {vs : List V} {ds : List D} (k : Po K cl W H (.lst true ds) Q) (o : Owns K cl W H vs ds []) (p : Addr) (hp : H p = none) : Q (.ref p) (upd H p (.lst vs)) :=
  k _ _ [p] (same_new hp) (Own.lstO (F := []) upd_same (o.growS (same_new hp) fun a ha => (List.mem_cons.mp ha).elim (fun z => .inr (by rw [z]; exact hp)) .inl)) (by simp) (fun a ha => by rw [List.mem_singleton.mp ha]; exact hp)
theorem Po.tup {vs : List V} {ds : List D} (k : Po K cl W H (.tup ds) Q) (o : Owns K cl W H vs ds []) (p : Addr) (hp : H p = none) : Q (.ref p) (upd H p (.tup vs)) :=
  k _ _ [] (same_new hp) (Own.tup (F := []) upd_same (o.mono (same_new hp))) List.nodup_nil (fun _ z => nomatch z)
theorem Po.tup0 {vs : List V} {ds : List D} {a : Addr} (k : Po K cl W H (.tup ds) Q) (o : Owns K cl W H vs ds []) (h : H a = some (.tup vs)) : Q (.ref a) H :=
  k _ _ [] (Same.refl H) (Own.tup (F := []) h o) List.nodup_nil (fun _ z => nomatch z)
end
/-- an operation on two values, by a rule of the hand layer -/
structure GO (X : Cx) (cl : Nat → Addr) (f : Value → Value → Sem Value) (g : D → D → Option D) : Prop where
  run : ∀ dx dy d, g dx dy = some d → ∃ r : R2, OpR X f r ∧ ∀ W H x y Fx Fy, VD W H → Own X.K cl W H x dx Fx → Own X.K cl W H y dy Fy → ∀ Q : VK, Po X.K cl W H d Q → r x y H Q
section
variable {X : Cx} {cl : Nat → Addr} {a b c e : Expr} {f g h : EE} {pos : Pos}
theorem bind2 {α β γ : Type} {o : Option α} {p : Option β} {k : α → β → Option γ} {d : γ} (h : (o.bind fun x => p.bind fun y => k x y) = some d) : ∃ x y, o = some x ∧ p = some y ∧ k x y = some d := by
  cases o with
  | none => cases h
  | some x =>
    cases p with
    | none => cases h
    | some y => exact ⟨x, y, rfl, rfl, h⟩
theorem bind1 {α γ : Type} {o : Option α} {k : α → Option γ} {d : γ} (h : o.bind k = some d) : ∃ x, o = some x ∧ k x = some d := by
  cases o with
  | none => cases h
  | some x => exact ⟨x, rfl, h⟩
theorem se_bin {op : Operator} {G : D → D → Option D} (o : GO X cl (binaryOp op) G) (ha : Pk X cl a f) (hb : Pk X cl b g) : Se X cl (.BinOp a op b pos) (eOp G f g) := by
  refine ⟨fun W env d q σ H E V Q k => ?_⟩
  obtain ⟨dx, dy, e1, e2, e3⟩ := bind2 q
  obtain ⟨r, hr, run⟩ := o.run dx dy d e3
  refine wE.of (pe_op hr pe_w pe_w) ?_
  refine ha.run W env dx e1 σ H E V _ fun v H1 F s1 o1 => ?_
  refine hb.run W env dy e2 σ H1 (E.mono s1) (V.mono s1) _ fun u H2 G' s2 o2 => ?_
  exact run W H2 v u F G' ((V.mono s1).mono s2) (o1.mono s2) o2 Q fun z H3 F3 s3 o3 n3 f3 => k z H3 F3 ((s1.trans s2).trans s3) o3 n3 fun x hx => Same.back (s1.trans s2) (f3 x hx)
theorem se_cmp {op : CmpOp} {G : D → D → Option D} (o : GO X cl (compareOp op) G) (ha : Pk X cl a f) (hb : Pk X cl b g) (hm : behindInMarks op b = false) : Se X cl (.Compare a [op] [b] pos) (eOp G f g) := by
  refine ⟨fun W env d q σ H E V Q k => ?_⟩
  obtain ⟨dx, dy, e1, e2, e3⟩ := bind2 q
  obtain ⟨r, hr, run⟩ := o.run dx dy d e3
  refine wE.of (pe_cmpR hr pe_w pe_w hm) ?_
  refine ha.run W env dx e1 σ H E V _ fun v H1 F s1 o1 => ?_
  refine hb.run W env dy e2 σ H1 (E.mono s1) (V.mono s1) _ fun u H2 G' s2 o2 => ?_
  exact run W H2 v u F G' ((V.mono s1).mono s2) (o1.mono s2) o2 Q fun z H3 F3 s3 o3 n3 f3 => k z H3 F3 ((s1.trans s2).trans s3) o3 n3 fun x hx => Same.back (s1.trans s2) (f3 x hx)
/-! ### the operators -/
theorem go_add : GO X cl (binaryOp .Add) gAdd := ⟨fun dx dy d q => by
  unfold gAdd at q
  split at q
  · cases q
    refine ⟨_, op_add, fun W H x y Fx Fy V ox oy Q k => ?_⟩
    cases own_int ox
    cases own_int oy
    exact ⟨_, _, rfl, rfl, k.int⟩
  · split at q
    · rename_i hz
      cases q
      refine ⟨_, op_add_str, fun W H x y Fx Fy V ox oy Q k => ?_⟩
      cases own_str ox
      cases own_str oy
      refine ⟨_, _, rfl, rfl, ?_, k.str' ?_⟩
      · rw [line_eq] at hz
        simpa [Str.length] using hz
      · rename_i xs ys
        have := TL.tl_append (⟨xs.toArray⟩ : Str) ⟨ys.toArray⟩
        exact this
    · cases q
  · split at q
    · rename_i hz
      simp only [Bool.and_eq_true, decide_eq_true_eq] at hz
      obtain ⟨⟨h1, h2⟩, h3⟩ := hz
      cases q
      refine ⟨_, op_cat, fun W H x y Fx Fy V ox oy Q k => ?_⟩
      obtain ⟨p, vs, G, rfl, hp, hs, _⟩ := own_lst ox
      obtain ⟨p', vs', G', rfl, hp', hs', _⟩ := own_lst oy
      refine ⟨p, p', vs, vs', rfl, rfl, hp, hp', by rw [hs.length, hs'.length, ← line_eq]; exact h3, fun l hl => ?_⟩
      exact Po.lst k (Owns.append (F := []) (G := []) (hs.shs h1) (hs'.shs h2)) l hl
    · cases q
  · split at q
    · rename_i hz
      simp only [Bool.and_eq_true, decide_eq_true_eq, Bool.not_eq_true'] at hz
      obtain ⟨⟨⟨⟨h1, h2⟩, h3⟩, h4⟩, h5⟩ := hz
      cases q
      refine ⟨_, op_catT, fun W H x y Fx Fy V ox oy Q k => ?_⟩
      obtain ⟨p, vs, rfl, hp, hs⟩ := own_tup ox
      obtain ⟨p', vs', rfl, hp', hs'⟩ := own_tup oy
      have n1 : vs ≠ [] := fun e => by
        have := hs.length
        rw [e] at this
        rename_i xs ys
        cases xs with
        | nil => cases h3
        | cons _ _ => cases this
      have n2 : vs' ≠ [] := fun e => by
        have := hs'.length
        rw [e] at this
        rename_i xs ys
        cases ys with
        | nil => cases h4
        | cons _ _ => cases this
      refine ⟨p, p', vs, vs', rfl, rfl, hp, hp', n1, by rw [hs.length, hs'.length, ← line_eq]; exact h5, fun z => absurd z n2, fun _ l hl => ?_⟩
      exact Po.tup k (Owns.append (F := []) (G := []) (hs.shs h1) (hs'.shs h2)) l hl
    · cases q
  · cases q⟩
theorem go_I {F : Value → Value → Sem Value} {C : Int → Int → Prop} {g : Int → Int → D} {gv : Int → Int → V} {G : D → D → Option D} (ho : OpR X F (rI C gv)) (hG : ∀ dx dy d, G dx dy = some d → ∃ i j, dx = .int i ∧ dy = .int j ∧ C i j ∧ d = g i j)
    (hv : ∀ i j W H, Own X.K cl W H (gv i j) (g i j) []) : GO X cl F G := ⟨fun dx dy d q => by
  obtain ⟨i, j, rfl, rfl, hc, rfl⟩ := hG dx dy d q
  refine ⟨_, ho, fun W H x y Fx Fy V ox oy Q k => ?_⟩
  cases own_int ox
  cases own_int oy
  exact ⟨i, j, rfl, rfl, hc, k _ _ [] (Same.refl H) (hv i j W H) List.nodup_nil (fun _ z => nomatch z)⟩⟩
theorem go_I0 {F : Value → Value → Sem Value} {g : Int → Int → D} {gv : Int → Int → V} {G : D → D → Option D} (ho : OpR X F (rI0 gv)) (hG : ∀ dx dy d, G dx dy = some d → ∃ i j, dx = .int i ∧ dy = .int j ∧ d = g i j)
    (hv : ∀ i j W H, Own X.K cl W H (gv i j) (g i j) []) : GO X cl F G := ⟨fun dx dy d q => by
  obtain ⟨i, j, rfl, rfl, rfl⟩ := hG dx dy d q
  refine ⟨_, ho, fun W H x y Fx Fy V ox oy Q k => ?_⟩
  cases own_int ox
  cases own_int oy
  exact ⟨i, j, rfl, rfl, k _ _ [] (Same.refl H) (hv i j W H) List.nodup_nil (fun _ z => nomatch z)⟩⟩
theorem go_sub : GO X cl (binaryOp .Sub) gSub := go_I0 op_sub (fun dx dy d q => by
  unfold gSub at q
  split at q
  · cases q; exact ⟨_, _, rfl, rfl, rfl⟩
  · cases q) fun i j _ _ => .int (i - j)
theorem opMulAny {i j : Int} (hc : i.natAbs.log2 + j.natAbs.log2 < 1000000 ∨ (-(2 ^ 64) < i ∧ i < 2 ^ 64) ∨ (-(2 ^ 64) < j ∧ j < 2 ^ 64)) : ∃ C : Int → Int → Prop, C i j ∧ ∀ X : Cx, OpR X (binaryOp .Mult) (rI C fun i j => .int (i * j)) := by
  rcases hc with hc | hc
  · exact ⟨CMulW, hc, fun X => op_mulW⟩
  · exact ⟨CMul, hc, fun X => op_mul⟩
theorem go_mul : GO X cl (binaryOp .Mult) gMul := ⟨fun dx dy d q => by
  unfold gMul at q
  split at q
  · split at q
    · rename_i hc
      cases q
      obtain ⟨C, c1, ho⟩ := opMulAny hc
      refine ⟨_, ho X, fun W H x y Fx Fy V ox oy Q k => ?_⟩
      cases own_int ox
      cases own_int oy
      exact ⟨_, _, rfl, rfl, c1, k.int⟩
    · cases q
  · split at q
    · rename_i hz
      simp only [Bool.and_eq_true, decide_eq_true_eq] at hz
      obtain ⟨h1, h2, h3, h4⟩ := hz
      cases q
      refine ⟨_, op_rep, fun W H x y Fx Fy V ox oy Q k => ?_⟩
      obtain ⟨p, vs, G, rfl, hp, hs, _⟩ := own_lst ox
      cases own_int oy
      exact ⟨p, _, vs, rfl, rfl, hp, h2, h3, by rw [hs.length, ← line_eq]; exact h4, fun l hl => Po.lst k (Owns.rep (hs.shs h1) _) l hl⟩
    · cases q
  · cases q⟩
theorem go_div : GO X cl (binaryOp .FloorDiv) gDiv := ⟨fun dx dy d q => by
  unfold gDiv at q
  split at q
  · split at q
    · rename_i hc
      cases q
      obtain ⟨h0, hc⟩ := hc
      rcases hc with hc | hc
      · refine ⟨_, op_fdiv, fun W H x y Fx Fy V ox oy Q k => ?_⟩
        cases own_int ox
        cases own_int oy
        exact ⟨_, _, rfl, rfl, ⟨h0, hc⟩, k.int⟩
      · refine ⟨_, op_fdivW, fun W H x y Fx Fy V ox oy Q k => ?_⟩
        cases own_int ox
        cases own_int oy
        exact ⟨_, _, rfl, rfl, ⟨h0, hc⟩, k.int⟩
    · cases q
  · cases q⟩
theorem go_mod : GO X cl (binaryOp .Mod) gMod := go_I op_mod (fun dx dy d q => by
  unfold gMod at q
  split at q
  · split at q
    · cases q; exact ⟨_, _, rfl, rfl, by assumption, rfl⟩
    · cases q
  · cases q) fun i j _ _ => .int (i % j)
theorem go_pow : GO X cl (binaryOp .Pow) gPow := go_I op_pow (fun dx dy d q => by
  unfold gPow at q
  split at q
  · split at q
    · cases q; exact ⟨_, _, rfl, rfl, by assumption, rfl⟩
    · cases q
  · cases q) fun i j _ _ => .int (i ^ j.toNat)
theorem go_shl : GO X cl (binaryOp .LShift) gShl := go_I op_shl (fun dx dy d q => by
  unfold gShl at q
  split at q
  · split at q
    · cases q; exact ⟨_, _, rfl, rfl, by assumption, rfl⟩
    · cases q
  · cases q) fun i j _ _ => .int (i * 2 ^ j.toNat)
theorem go_shr : GO X cl (binaryOp .RShift) gShr := go_I op_shr (fun dx dy d q => by
  unfold gShr at q
  split at q
  · split at q
    · cases q; exact ⟨_, _, rfl, rfl, by assumption, rfl⟩
    · cases q
  · cases q) fun i j _ _ => .int (i / 2 ^ j.toNat)
theorem go_nn {F : Value → Value → Sem Value} {gv : Int → Int → Int} {g : Nat → Nat → Nat} {G : D → D → Option D} (ho : OpR X F (rI0 fun i j => .int (gv i j))) (hG : ∀ dx dy d, G dx dy = some d → ∃ i j, dx = .int i ∧ dy = .int j ∧ 0 ≤ i ∧ 0 ≤ j ∧ d = .int ((g i.toNat j.toNat : Nat) : Int))
    (hv : ∀ i j : Int, 0 ≤ i → 0 ≤ j → gv i j = ((g i.toNat j.toNat : Nat) : Int)) : GO X cl F G := ⟨fun dx dy d q => by
  obtain ⟨i, j, rfl, rfl, h1, h2, rfl⟩ := hG dx dy d q
  refine ⟨_, ho, fun W H x y Fx Fy V ox oy Q k => ?_⟩
  cases own_int ox
  cases own_int oy
  refine ⟨i, j, rfl, rfl, ?_⟩
  show Q (.int (gv i j)) H
  rw [hv i j h1 h2]
  exact k.int⟩
theorem nnG {g : Nat → Nat → Nat} {G : D → D → Option D} (e : ∀ i j : Int, G (.int i) (.int j) = if 0 ≤ i ∧ 0 ≤ j then some (.int ((g i.toNat j.toNat : Nat) : Int)) else none) {i j : Int} {d : D} (q : G (.int i) (.int j) = some d) :
    ∃ i' j', D.int i = .int i' ∧ D.int j = .int j' ∧ 0 ≤ i' ∧ 0 ≤ j' ∧ d = .int ((g i'.toNat j'.toNat : Nat) : Int) := by
  rw [e] at q
  split at q
  · rename_i hc
    cases q
    exact ⟨i, j, rfl, rfl, hc.1, hc.2, rfl⟩
  · cases q
theorem go_andB : GO X cl (binaryOp .BitAnd) gAndB := go_nn op_and (fun dx dy d q => by
  unfold gAndB at q
  split at q
  · split at q
    · rename_i hc
      cases q
      exact ⟨_, _, rfl, rfl, hc.1, hc.2, rfl⟩
    · cases q
  · cases q) fun i j h1 h2 => PyProof.Rows.bitAnd_pp h1 h2
theorem go_orB : GO X cl (binaryOp .BitOr) gOrB := go_nn op_or (fun dx dy d q => by
  unfold gOrB at q
  split at q
  · split at q
    · rename_i hc
      cases q
      exact ⟨_, _, rfl, rfl, hc.1, hc.2, rfl⟩
    · cases q
  · cases q) fun i j h1 h2 => Bits.bitOr_pp h1 h2
theorem go_xorB : GO X cl (binaryOp .BitXor) gXorB := go_nn op_xor (fun dx dy d q => by
  unfold gXorB at q
  split at q
  · split at q
    · rename_i hc
      cases q
      exact ⟨_, _, rfl, rfl, hc.1, hc.2, rfl⟩
    · cases q
  · cases q) fun i j h1 h2 => Bits.bitXor_pp h1 h2
theorem go_lt : GO X cl (compareOp .Lt) gLt := go_I0 op_lt (fun dx dy d q => by
  unfold gLt at q
  split at q
  · cases q; exact ⟨_, _, rfl, rfl, rfl⟩
  · cases q) fun i j _ _ => .bl (decide (i < j))
theorem go_le : GO X cl (compareOp .LtE) gLe := go_I0 op_le (fun dx dy d q => by
  unfold gLe at q
  split at q
  · cases q; exact ⟨_, _, rfl, rfl, rfl⟩
  · cases q) fun i j _ _ => .bl (decide (i ≤ j))
theorem go_gt : GO X cl (compareOp .Gt) gGt := go_I0 op_gt (fun dx dy d q => by
  unfold gGt at q
  split at q
  · cases q; exact ⟨_, _, rfl, rfl, rfl⟩
  · cases q) fun i j _ _ => .bl (decide (j < i))
theorem go_ge : GO X cl (compareOp .GtE) gGe := go_I0 op_ge (fun dx dy d q => by
  unfold gGe at q
  split at q
  · cases q; exact ⟨_, _, rfl, rfl, rfl⟩
  · cases q) fun i j _ _ => .bl (decide (j ≤ i))
end
end Tg

namespace Tg
open PySem PySem.Spec L2
/-! ### equality -/
mutual
def D.py : D → PyData
  | .non => .none
  | .bl b => .bool b
  | .int i => .int i
  | .str x => .str ⟨x.toArray⟩
  | .lst _ xs => .list (D.pys xs)
  | .tup xs => .tuple (D.pys xs)
  | _ => .none
def D.pys : List D → List PyData
  | [] => []
  | x :: xs => D.py x :: D.pys xs
end
mutual
theorem Own.dp {K : PySem.W.Frag} {cl : Nat → Addr} {W : List Addr} {H : Hp} : ∀ {v : V} {d : D} {F : List Addr} (n : Nat), Own K cl W H v d F → d.eqok n = true → Dp K H v d.py
  | _, _, _, _, .non, _ => .non
  | _, _, _, _, .bl b, _ => .bl b
  | _, _, _, _, .int i, _ => .int i
  | _, _, _, _, .str x, _ => .str _
  | _, _, _, n, .tup h hs, e => by
    cases n with
    | zero => cases e
    | succ n => exact .tup (SqT.of h) (Owns.dp n hs e)
  | _, _, _, n, .lstO h hs, e => by
    cases n with
    | zero => cases e
    | succ n => exact .lst (SqL.of h) (Owns.dp n hs e)
  | _, _, _, n, .lstF h hn hs, e => by
    cases n with
    | zero => cases e
    | succ n => exact .lst (SqL.of h) (Owns.dp n hs e)
  | _, _, _, n, .scr _ _, e => by cases n <;> cases e
  | _, _, _, n, .scrK _, e => by cases n <;> cases e
  | _, _, _, n, .dicO _ _ _, e => by cases n <;> cases e
  | _, _, _, n, .dicF _ _ _ _, e => by cases n <;> cases e
  | _, _, _, n, .dtO _ _ _, e => by cases n <;> cases e
  | _, _, _, n, .dtF _ _ _ _, e => by cases n <;> cases e
  | _, _, _, n, .objO _ _ _, e => by cases n <;> cases e
  | _, _, _, n, .objF _ _ _ _, e => by cases n <;> cases e
  | _, _, _, n, .hole _, e => by cases n <;> cases e
theorem Owns.dp {K : PySem.W.Frag} {cl : Nat → Addr} {W : List Addr} {H : Hp} : ∀ {vs : List V} {ds : List D} {F : List Addr} (n : Nat), Owns K cl W H vs ds F → D.eqoks n ds = true → DpAll K H vs (D.pys ds)
  | _, _, _, _, .nil, _ => .nil
  | _, _, _, n, .cons h hs, e => by
    unfold D.eqoks at e
    rw [Bool.and_eq_true] at e
    exact .cons (Own.dp n h e.1) (Owns.dp n hs e.2)
end
mutual
theorem D.py_ok : ∀ (n : Nat) (d : D), d.eqok n = true → d.py.canLay0 = true ∧ d.py.depth ≤ n
  | n, .non, _ => ⟨rfl, Nat.zero_le _⟩
  | n, .bl _, _ => ⟨rfl, Nat.zero_le _⟩
  | n, .int _, _ => ⟨rfl, Nat.zero_le _⟩
  | n, .str x, e => ⟨by
      have e' : (x.all fun c => decide (c < 1114112)) = true := by cases n <;> exact e
      show PyData.strOk ⟨x.toArray⟩ = true
      unfold PyData.strOk
      rw [Array.all_eq_true']
      intro c hc
      rw [List.all_eq_true] at e'
      have := e' c (by simpa using hc)
      simpa using this, Nat.zero_le _⟩
  | 0, .lst _ xs, e => by cases e
  | 0, .tup xs, e => by cases e
  | n + 1, .lst _ xs, e => by
    have h := D.pys_ok n xs e
    exact ⟨h.1, Nat.succ_le_succ h.2⟩
  | n + 1, .tup xs, e => by
    have h := D.pys_ok n xs e
    exact ⟨h.1, Nat.succ_le_succ h.2⟩
  | n, .scr _, e => by cases n <;> cases e
  | n, .dic _ _ _, e => by cases n <;> cases e
  | n, .obj _ _ _, e => by cases n <;> cases e
  | n, .hole, e => by cases n <;> cases e
theorem D.pys_ok : ∀ (n : Nat) (xs : List D), D.eqoks n xs = true → PyData.canLayAll0 (D.pys xs) = true ∧ PyData.depthAll (D.pys xs) ≤ n
  | n, [], _ => ⟨rfl, Nat.zero_le _⟩
  | n, x :: xs, e => by
    unfold D.eqoks at e
    rw [Bool.and_eq_true] at e
    have h1 := D.py_ok n x e.1
    have h2 := D.pys_ok n xs e.2
    refine ⟨?_, ?_⟩
    · show (x.py.canLay0 && PyData.canLayAll0 (D.pys xs)) = true
      rw [h1.1, h2.1]; rfl
    · show max x.py.depth (PyData.depthAll (D.pys xs)) ≤ n
      exact Nat.max_le.mpr ⟨h1.2, h2.2⟩
end
theorem D.py_shaped {n : Nat} (hn : n ≤ 64) {d : D} (e : d.eqok n = true) : SeqAt.shaped d.py = true := by
  have h := D.py_ok n d e
  unfold SeqAt.shaped
  rw [h.1, decide_eq_true (Nat.le_trans h.2 hn)]
  rfl
theorem strEqv (x y : List Nat) : ((⟨x.toArray⟩ : Str) == ⟨y.toArray⟩) = (x == y) := by
  rw [Bool.eq_iff_iff, beq_iff_eq, beq_iff_eq]
  constructor
  · intro h
    injection h with h
    simpa using h
  · intro h
    rw [h]
mutual
theorem D.py_eqv : ∀ (n m : Nat) (d e : D), d.eqok n = true → e.eqok m = true → PyData.eqv d.py e.py = D.eqv d e
  | n, m, .non, e, _, h => by cases e <;> first | rfl | (cases m <;> cases h)
  | n, m, .bl b, e, _, h => by cases e <;> first | rfl | (cases m <;> cases h)
  | n, m, .int i, e, _, h => by cases e <;> first | rfl | (cases m <;> cases h)
  | n, m, .str x, e, _, h => by cases e <;> first | rfl | exact strEqv _ _ | (cases m <;> cases h)
  | n + 1, m, .lst o xs, e, h1, h => by
    cases e <;> first | rfl | (cases m <;> first | (cases h; done) | exact D.pys_eqv n _ xs _ h1 h)
  | n + 1, m, .tup xs, e, h1, h => by
    cases e <;> first | rfl | (cases m <;> first | (cases h; done) | exact D.pys_eqv n _ xs _ h1 h)
  | 0, _, .lst _ _, _, h, _ => by cases h
  | 0, _, .tup _, _, h, _ => by cases h
  | n, _, .scr _, _, h, _ => by cases n <;> cases h
  | n, _, .dic _ _ _, _, h, _ => by cases n <;> cases h
  | n, _, .obj _ _ _, _, h, _ => by cases n <;> cases h
  | n, _, .hole, _, h, _ => by cases n <;> cases h
theorem D.pys_eqv : ∀ (n m : Nat) (xs ys : List D), D.eqoks n xs = true → D.eqoks m ys = true → PyData.eqvAll (D.pys xs) (D.pys ys) = D.eqvs xs ys
  | _, _, [], [], _, _ => rfl
  | _, _, [], _ :: _, _, _ => rfl
  | _, _, _ :: _, [], _, _ => rfl
  | n, m, x :: xs, y :: ys, h1, h2 => by
    unfold D.eqoks at h1 h2
    rw [Bool.and_eq_true] at h1 h2
    show (PyData.eqv x.py y.py && PyData.eqvAll (D.pys xs) (D.pys ys)) = (D.eqv x y && D.eqvs xs ys)
    rw [D.py_eqv n m x y h1.1 h2.1, D.pys_eqv n m xs ys h1.2 h2.2]
end
section
variable {X : Cx} {cl : Nat → Addr} {a b c e : Expr} {f g h : EE} {pos : Pos}
theorem eqD_cases {x y : D} {k : Bool} (q : eqD x y = some k) : (∃ s t, x = .str s ∧ y = .str t ∧ k = (s == t)) ∨ (x.eqok 60 = true ∧ y.eqok 60 = true ∧ k = D.eqv x y) := by
  unfold eqD at q
  split at q
  · cases q
    exact .inl ⟨_, _, rfl, rfl, rfl⟩
  · split at q
    · rename_i hh
      rw [Bool.and_eq_true] at hh
      cases q
      exact .inr ⟨hh.1, hh.2, rfl⟩
    · cases q
theorem map_bl {o : Option Bool} {t : Bool → D} {d : D} (q : o.map t = some d) : ∃ k, o = some k ∧ d = t k := by
  cases o with
  | none => cases q
  | some k => cases q; exact ⟨k, rfl, rfl⟩
theorem go_eq (hu : X.A.units + 64 < cLine) : GO X cl (compareOp .Eq) gEq := ⟨fun dx dy d q => by
  obtain ⟨k, h1, rfl⟩ := map_bl q
  rcases eqD_cases h1 with ⟨s, t, rfl, rfl, rfl⟩ | ⟨h2, h3, rfl⟩
  · refine ⟨_, op_eq, fun W H x y Fx Fy V ox oy Q k => ?_⟩
    cases own_str ox
    cases own_str oy
    refine ⟨rfl, ?_⟩
    rw [dec_str, strEqv]
    exact k.bl
  · refine ⟨_, op_eqD hu, fun W H x y Fx Fy V ox oy Q k => ?_⟩
    refine ⟨_, _, ox.dp 60 h2, oy.dp 60 h3, D.py_shaped (by decide) h2, D.py_shaped (by decide) h3, ?_⟩
    rw [D.py_eqv 60 60 _ _ h2 h3]
    exact k.bl⟩
theorem go_ne (hu : X.A.units + 64 < cLine) : GO X cl (compareOp .NotEq) gNe := ⟨fun dx dy d q => by
  obtain ⟨k, h1, rfl⟩ := map_bl q
  rcases eqD_cases h1 with ⟨s, t, rfl, rfl, rfl⟩ | ⟨h2, h3, rfl⟩
  · refine ⟨_, op_ne, fun W H x y Fx Fy V ox oy Q k => ?_⟩
    cases own_str ox
    cases own_str oy
    refine ⟨rfl, ?_⟩
    rw [dec_str, strEqv]
    exact k.bl
  · refine ⟨_, op_neD hu, fun W H x y Fx Fy V ox oy Q k => ?_⟩
    refine ⟨_, _, ox.dp 60 h2, oy.dp 60 h3, D.py_shaped (by decide) h2, D.py_shaped (by decide) h3, ?_⟩
    rw [D.py_eqv 60 60 _ _ h2 h3]
    exact k.bl⟩
/-! ### in -/
theorem own_flat {K : PySem.W.Frag} {W : List Addr} {H : Hp} {v : V} {d : D} {F : List Addr} (o : Own K cl W H v d F) (h : flat d = true) : flatV v = true := by
  cases o <;> first | rfl | cases h
theorem owns_flat {K : PySem.W.Frag} {W : List Addr} {H : Hp} : ∀ {vs : List V} {ds : List D} {F : List Addr}, Owns K cl W H vs ds F → ds.all flat = true → vs.all flatV = true
  | _, _, _, .nil, _ => rfl
  | _, _, _, .cons o os, h => by
    rw [List.all_cons, Bool.and_eq_true] at h ⊢
    exact ⟨own_flat o h.1, owns_flat os h.2⟩
theorem own_eqV {K : PySem.W.Frag} {W : List Addr} {H : Hp} {v u : V} {d e : D} {F G : List Addr} (o : Own K cl W H v d F) (p : Own K cl W H u e G) (h : flat d = true) (h' : flat e = true) : eqV v u = D.eqv d e := by
  cases o <;> first | (cases h; done) | (cases p <;> first | rfl | exact strEqv _ _ | (cases h'; done))
theorem owns_any {K : PySem.W.Frag} {W : List Addr} {H : Hp} {u : V} {e : D} {G : List Addr} (p : Own K cl W H u e G) (h' : flat e = true) : ∀ {vs : List V} {ds : List D} {F : List Addr}, Owns K cl W H vs ds F → ds.all flat = true → inV u vs = ds.any fun y => D.eqv y e
  | _, _, _, .nil, _ => rfl
  | _, _, _, .cons o os, h => by
    rw [List.all_cons, Bool.and_eq_true] at h
    have ih := owns_any p h' os h.2
    unfold inV at ih ⊢
    rw [List.any_cons, List.any_cons, own_eqV o p h.1 h', ih]
theorem inD_cases {x y : D} {k : Bool} (q : inD x y = some k) : (∃ c z, x = .str [c] ∧ y = .str z ∧ k = decide (c ∈ z)) ∨ (flat x = true ∧ ((∃ xs, y = .tup xs ∧ xs.all flat = true ∧ k = xs.any fun y => D.eqv y x) ∨ ∃ o xs, y = .lst o xs ∧ xs.all flat = true ∧ k = xs.any fun y => D.eqv y x)) := by
  unfold inD at q
  split at q
  · cases q
    exact .inl ⟨_, _, rfl, rfl, rfl⟩
  · split at q
    · rename_i hh
      rw [Bool.and_eq_true] at hh
      cases q
      exact .inr ⟨hh.1, .inl ⟨_, rfl, hh.2, rfl⟩⟩
    · cases q
  · split at q
    · rename_i hh
      rw [Bool.and_eq_true] at hh
      cases q
      exact .inr ⟨hh.1, .inr ⟨_, _, rfl, hh.2, rfl⟩⟩
    · cases q
  · cases q
theorem go_in : GO X cl (compareOp .In) gIn := ⟨fun dx dy d q => by
  obtain ⟨k, h1, rfl⟩ := map_bl q
  rcases inD_cases h1 with ⟨c, z, rfl, rfl, rfl⟩ | ⟨hf, h2⟩
  · refine ⟨_, op_in_sign, fun W H x y Fx Fy V ox oy Q k => ?_⟩
    cases own_str ox
    cases own_str oy
    exact ⟨c, _, rfl, rfl, k.bl⟩
  · refine ⟨_, op_in_seq, fun W H x y Fx Fy V ox oy Q k => ?_⟩
    rcases h2 with ⟨xs, rfl, h3, rfl⟩ | ⟨o, xs, rfl, h3, rfl⟩
    · obtain ⟨p, vs, rfl, hp, hs⟩ := own_tup oy
      refine ⟨p, vs, rfl, .inr hp, own_flat ox hf, owns_flat hs h3, ?_⟩
      rw [owns_any ox hf hs h3]
      exact k.bl
    · obtain ⟨p, vs, G, rfl, hp, hs, _⟩ := own_lst oy
      refine ⟨p, vs, rfl, .inl (SqL.of hp), own_flat ox hf, owns_flat hs h3, ?_⟩
      rw [owns_any ox hf hs h3]
      exact k.bl⟩
theorem go_notIn : GO X cl (compareOp .NotIn) gNotIn := ⟨fun dx dy d q => by
  obtain ⟨k, h1, rfl⟩ := map_bl q
  rcases inD_cases h1 with ⟨c, z, rfl, rfl, rfl⟩ | ⟨hf, h2⟩
  · refine ⟨_, op_notIn_sign, fun W H x y Fx Fy V ox oy Q k => ?_⟩
    cases own_str ox
    cases own_str oy
    exact ⟨c, _, rfl, rfl, k.bl⟩
  · refine ⟨_, op_notIn_seq, fun W H x y Fx Fy V ox oy Q k => ?_⟩
    rcases h2 with ⟨xs, rfl, h3, rfl⟩ | ⟨o, xs, rfl, h3, rfl⟩
    · obtain ⟨p, vs, rfl, hp, hs⟩ := own_tup oy
      refine ⟨p, vs, rfl, .inr hp, own_flat ox hf, owns_flat hs h3, ?_⟩
      rw [owns_any ox hf hs h3]
      exact k.bl
    · obtain ⟨p, vs, G, rfl, hp, hs, _⟩ := own_lst oy
      refine ⟨p, vs, rfl, .inl (SqL.of hp), own_flat ox hf, owns_flat hs h3, ?_⟩
      rw [owns_any ox hf hs h3]
      exact k.bl⟩
/-! ### is None -/
theorem own_isNon {K : PySem.W.Frag} {W : List Addr} {H : Hp} {v : V} {d : D} {F : List Addr} (o : Own K cl W H v d F) (h : d ≠ .hole) : decide (v = .non) = isNon d := by
  cases o <;> first | rfl | exact absurd rfl h
theorem se_isN {j pos'} (ha : Pk X cl a f) : Se X cl (.Compare a [.Is] [.Constant .none j pos'] pos) (eUn gIsN f) := by
  refine ⟨fun W env d q σ H E V Q k => ?_⟩
  obtain ⟨dx, e1, e2⟩ := bind1 q
  have hd : dx ≠ .hole ∧ d = .bl (isNon dx) := by
    unfold gIsN at e2
    split at e2
    · cases e2
    · rename_i hh
      cases e2
      exact ⟨fun z => hh z, rfl⟩
  obtain ⟨h1, rfl⟩ := hd
  refine wE.of (pe_cmpR op_isN pe_w pe_non (nomark _)) ?_
  refine ha.run W env dx e1 σ H E V _ fun v H1 F s1 o1 => ⟨rfl, ?_⟩
  rw [own_isNon o1 h1]
  exact k _ _ [] s1 (.bl _) List.nodup_nil (fun _ z => nomatch z)
theorem se_notN {j pos'} (ha : Pk X cl a f) : Se X cl (.Compare a [.IsNot] [.Constant .none j pos'] pos) (eUn gNotN f) := by
  refine ⟨fun W env d q σ H E V Q k => ?_⟩
  obtain ⟨dx, e1, e2⟩ := bind1 q
  have hd : dx ≠ .hole ∧ d = .bl (!isNon dx) := by
    unfold gNotN at e2
    split at e2
    · cases e2
    · rename_i hh
      cases e2
      exact ⟨fun z => hh z, rfl⟩
  obtain ⟨h1, rfl⟩ := hd
  refine wE.of (pe_cmpR op_notN pe_w pe_non (nomark _)) ?_
  refine ha.run W env dx e1 σ H E V _ fun v H1 F s1 o1 => ⟨rfl, ?_⟩
  rw [own_isNon o1 h1]
  exact k _ _ [] s1 (.bl _) List.nodup_nil (fun _ z => nomatch z)
/-! ### subscripts -/
theorem atD_mem {α : Type} {xs : List α} {i : Int} {x : α} (h : atD xs i = some x) : ∃ j, ixD xs.length i = some j ∧ xs[j]? = some x := by
  unfold atD at h
  obtain ⟨j, h1, h2⟩ := bind1 h
  exact ⟨j, h1, h2⟩
theorem owns_at {K : PySem.W.Frag} {W : List Addr} {H : Hp} {vs : List V} {ds : List D} {F : List Addr} {i : Int} {d : D} (h : Owns K cl W H vs ds F) (e : atD ds i = some d) : ∃ v G, atI vs i = some v ∧ Own K cl W H v d G ∧ ∀ a ∈ G, a ∈ F := by
  obtain ⟨j, h1, h2⟩ := atD_mem e
  obtain ⟨v, G, h3, h4, h5⟩ := h.get h2
  refine ⟨v, G, ?_, h4, h5⟩
  show (ixD vs.length i).bind _ = _
  rw [h.length, h1]
  exact h3
theorem pk_ix (ha : Pk X cl a f) (hb : Pk X cl b g) (hs : PlainIx b) : Pk X cl (.Subscript a b pos) (eOp gIx f g) := by
  refine ⟨fun W env d q σ H E V Q k => ?_⟩
  obtain ⟨dx, dy, e1, e2, e3⟩ := bind2 q
  refine wE.of (pe_ix ix_seq pe_w pe_w hs) ?_
  refine ha.run W env dx e1 σ H E V _ fun v H1 F s1 o1 => ?_
  refine hb.run W env dy e2 σ H1 (E.mono s1) (V.mono s1) _ fun u H2 G' s2 o2 => ?_
  have o1' := o1.mono s2
  have s := s1.trans s2
  unfold gIx at e3
  split at e3
  · obtain ⟨p, vs, rfl, hp, hs⟩ := own_tup o1'
    cases own_int o2
    obtain ⟨v, G, h1, h2, _⟩ := owns_at hs e3
    exact .inr (.inl ⟨p, vs, _, v, rfl, rfl, hp, h1, k v H2 G s h2⟩)
  · obtain ⟨p, vs, G0, rfl, hp, hs, _⟩ := own_lst o1'
    cases own_int o2
    obtain ⟨v, G, h1, h2, _⟩ := owns_at hs e3
    exact .inl ⟨p, vs, _, v, rfl, rfl, SqL.of hp, h1, k v H2 G s h2⟩
  · split at e3
    · rename_i hz
      cases own_str o1'
      cases own_int o2
      rename_i xs i
      cases hh : atD xs i with
      | none => rw [hh] at e3; cases e3
      | some c =>
        rw [hh] at e3
        cases e3
        refine .inr (.inr ⟨_, _, c, rfl, rfl, by rw [line_eq] at hz; simpa [Str.length] using hz, ?_, k _ H2 [] s (.str [c])⟩)
        exact hh
    · cases e3
  · obtain ⟨p, rfl, hp⟩ := own_scr o1'
    cases own_int o2
    rename_i ns i
    cases hh : atD ns i with
    | none => rw [hh] at e3; cases e3
    | some n =>
      rw [hh] at e3
      cases e3
      obtain ⟨j, h1, h2⟩ := atD_mem hh
      refine .inl ⟨p, _, _, .int n, rfl, rfl, hp, ?_, k _ H2 [] s (.int n)⟩
      show (ixD (ns.map L2.V.int).length i).bind _ = _
      rw [List.length_map, h1]
      show (ns.map L2.V.int)[j]? = _
      rw [List.getElem?_map, h2]
      rfl
  · cases e3
/-! ### slices -/
structure Po1 (X : Cx) (cl : Nat → Addr) (e : Option Expr) (f : Env → Option (Option Int)) : Prop where
  run : ∀ (W : List Addr) (env : Env) (o : Option Int), f env = some o → ∀ (σ : St) (H : Hp), EV X.K cl W H σ env → VD W H → ∀ Q : Option Int → Hp → Prop, (∀ H', Same H H' → Q o H') → ∃ t, PO X e t ∧ t σ H Q
theorem po1_none : Po1 X cl none pNone := ⟨fun W env o q σ H E V Q k => by
  cases q
  exact ⟨_, po_none, k H (Same.refl H)⟩⟩
theorem po1_some (h : Pk X cl e f) : Po1 X cl (some e) (pSome f) := ⟨fun W env o q σ H E V Q k => by
  unfold pSome at q
  cases e1 : f env with
  | none => rw [e1] at q; cases q
  | some d =>
    rw [e1] at q
    cases d <;> first | (cases q; done) | skip
    cases q
    refine ⟨_, po_some pe_w, ?_⟩
    refine h.run W env _ e1 σ H E V _ fun v H1 F s1 o1 => ?_
    cases own_int o1
    exact ⟨_, rfl, k H1 s1⟩⟩
theorem cutI_eq (n d : Nat) (o : Option Int) : cutI n d o = HT.sIx n d o := by
  cases o with
  | none => rfl
  | some v =>
    have h := HT.clip_eq v n d
    unfold cutI
    by_cases hv : v < 0
    · rw [if_pos hv] at h
      simp only [if_pos hv]
      omega
    · rw [if_neg hv] at h
      simp only [if_neg hv]
      omega
theorem cutD_V {vs : List V} {ds : List D} (h : vs.length = ds.length) (lo hi : Option Int) : cutV vs lo hi = (vs.drop (cutI ds.length 0 lo)).take (cutI ds.length ds.length hi - cutI ds.length 0 lo) := by
  unfold cutV
  rw [h, cutI_eq, cutI_eq]
theorem cutS_D (x : List Nat) (lo hi : Option Int) : (cutS ⟨x.toArray⟩ lo hi).cps.toList = cutD x lo hi := by
  have e : (⟨x.toArray⟩ : Str).cps.toList = x := rfl
  have e2 : (⟨x.toArray⟩ : Str).length = x.length := by simp [Str.length]
  unfold cutS cutD
  simp only [cutI_eq, e2]
theorem owns_cut {K : PySem.W.Frag} {W : List Addr} {H : Hp} {vs : List V} {ds : List D} {F : List Addr} (h : Owns K cl W H vs ds F) (e : D.shs ds = true) (lo hi : Option Int) : Owns K cl W H (cutV vs lo hi) (cutD ds lo hi) [] := by
  rw [cutD_V h.length]
  exact Owns.takeN _ (Owns.dropN _ h e) (shs_drop _ _ e)
theorem map_cut {α β : Type} (u : α → β) (xs : List α) (lo hi : Option Int) : (cutD xs lo hi).map u = cutD (xs.map u) lo hi := by
  unfold cutD
  rw [List.map_take, List.map_drop, List.length_map]
theorem se_cut {lo hi : Option Expr} {fl fh : Env → Option (Option Int)} {p2 : Pos} (ha : Pk X cl a f) (hl : Po1 X cl lo fl) (hh : Po1 X cl hi fh) : Se X cl (.Subscript a (.Slice lo hi none p2) pos) (eCut f fl fh) := by
  refine ⟨fun W env d q σ H E V Q k => ?_⟩
  unfold eCut at q
  obtain ⟨dx, e1, q1⟩ := bind1 q
  obtain ⟨ol, e2, q2⟩ := bind1 q1
  obtain ⟨oh, e3, q3⟩ := bind1 q2
  clear q q1 q2
  -- the parts' readings are chosen where they are read
  let tl : TO := fun σ H Q => ∃ t, PO X lo t ∧ t σ H Q
  let th : TO := fun σ H Q => ∃ t, PO X hi t ∧ t σ H Q
  have hpl : PO X lo tl := ⟨fun pins s σ H Q I h => by
    obtain ⟨t, h1, h2⟩ := h
    exact h1.run pins s σ H Q I h2⟩
  have hph : PO X hi th := ⟨fun pins s σ H Q I h => by
    obtain ⟨t, h1, h2⟩ := h
    exact h1.run pins s σ H Q I h2⟩
  have body : ∀ (r : L2.V → Option Int → Option Int → Hp → VK → Prop), (∀ v H1 F, Same H H1 → Own X.K cl W H1 v dx F → r v ol oh H1 Q) → tSl r (wE X a) tl th σ H Q := fun r hr =>
    ha.run W env dx e1 σ H E V _ fun v H1 F s1 o1 => hl.run W env ol e2 σ H1 (E.mono s1) (V.mono s1) _ fun H2 s2 => hh.run W env oh e3 σ H2 (E.mono (s1.trans s2)) ((V.mono s1).mono s2) _ fun H3 s3 =>
      hr v H3 F ((s1.trans s2).trans s3) ((o1.mono s2).mono s3)
  unfold gCut at q3
  split at q3
  · split at q3
    · rename_i hs
      cases q3
      refine wE.of (pe_slice sl_list pe_w hpl hph) (body _ fun v H1 F s1 o1 => ?_)
      obtain ⟨p, vs, G, rfl, hp, hv, _⟩ := own_lst o1
      refine ⟨p, vs, rfl, SqL.of hp, fun l hl => ?_⟩
      exact k _ _ [l] (s1.trans (same_new hl)) (Own.lstO (F := []) upd_same ((owns_cut hv hs ol oh).growS (same_new hl) fun a ha => (List.mem_cons.mp ha).elim (fun z => .inr (by rw [z]; exact hl)) .inl)) (by simp) (fun b hb => by rw [List.mem_singleton.mp hb]; exact Same.back s1 hl)
    · cases q3
  · rename_i ns
    cases q3
    refine wE.of (pe_slice sl_list pe_w hpl hph) (body _ fun v H1 F s1 o1 => ?_)
    obtain ⟨p, rfl, hp⟩ := own_scr o1
    refine ⟨p, _, rfl, hp, fun l hl => ?_⟩
    have e : cutV (ns.map L2.V.int) ol oh = (cutD ns ol oh).map L2.V.int := by
      rw [map_cut, cutD_V (ds := ns.map D.int) (by simp)]
      unfold cutD
      simp
    rw [e]
    exact k _ _ [l] (s1.trans (same_new hl)) (Own.lstO (F := []) upd_same own_ints) (by simp) (fun b hb => by rw [List.mem_singleton.mp hb]; exact Same.back s1 hl)
  · rename_i zs
    split at q3
    · rename_i hz
      cases q3
      refine wE.of (pe_slice sl_str pe_w hpl hph) (body _ fun v H1 F s1 o1 => ?_)
      cases own_str o1
      refine ⟨_, rfl, by rw [line_eq] at hz; simpa [Str.length] using hz, ?_⟩
      have h := ownStr (cl := cl) (K := X.K) (W := W) (H := H1) (cutS ⟨zs.toArray⟩ ol oh)
      rw [cutS_D] at h
      exact k _ _ [] s1 h List.nodup_nil (fun _ z => nomatch z)
    · cases q3
  · split at q3
    · rename_i hs
      rw [Bool.and_eq_true, decide_eq_true_eq] at hs
      cases q3
      refine wE.of (pe_slice sl_tup pe_w hpl hph) (body _ fun v H1 F s1 o1 => ?_)
      obtain ⟨p, vs, rfl, hp, hv⟩ := own_tup o1
      refine ⟨p, vs, rfl, hp, ?_⟩
      have hc := owns_cut hv hs.1 ol oh
      refine ⟨fun z => ?_, fun l hl => ?_⟩
      · have h1 := hs.2
        rw [← hc.length] at h1
        unfold cutV at h1
        rw [z.1, z.2, List.drop_zero, Nat.sub_zero, List.take_length, hv.length] at h1
        exact Nat.lt_irrefl _ h1
      · exact k _ _ [] (s1.trans (same_new hl)) (Own.tup (F := []) upd_same (hc.mono (same_new hl))) List.nodup_nil (fun _ z => nomatch z)
    · cases q3
  · cases q3
end
end Tg

namespace Tg
open PySem PySem.Spec L2
/-! ### tests -/
def wT (X : Cx) (e : Expr) : TT := fun σ H Q => ∀ (pins : List (Addr × Obj)) (s : Shared), Inv X pins σ H s → wpAny (model X.prog X.w) X.A (isTrue e X.env (eval e X.env)) (TP X pins σ Q) X.xe s
theorem pt_w {X : Cx} {e : Expr} : PT X e (wT X e) := ⟨fun pins s σ H Q I h => h pins s I⟩
theorem wT.of {X : Cx} {e : Expr} {t : TT} (h : PT X e t) {σ : St} {H : Hp} {Q : Bool → Hp → Prop} (q : t σ H Q) : wT X e σ H Q := fun pins s I => h.run pins s σ H Q I q
def wW (X : Cx) (e : Expr) : TT := fun σ H Q => ∀ (whole : Sem Value) (pins : List (Addr × Obj)) (s : Shared), Inv X pins σ H s → wpAny (model X.prog X.w) X.A (isTrue e X.env whole) (TP X pins σ Q) X.xe s
theorem pw_w {X : Cx} {e : Expr} : PW X e (wW X e) := ⟨fun wh pins s σ H Q I h => h wh pins s I⟩
theorem wW.of {X : Cx} {e : Expr} {t : TT} (h : PW X e t) {σ : St} {H : Hp} {Q : Bool → Hp → Prop} (q : t σ H Q) : wW X e σ H Q := fun wh pins s I => h.run wh pins s σ H Q I q
structure Te (X : Cx) (cl : Nat → Addr) (e : Expr) (f : EE) : Prop where
  run : ∀ (W : List Addr) (env : Env) (b : Bool), f env = some (.bl b) → ∀ (σ : St) (H : Hp), EV X.K cl W H σ env → VD W H → ∀ Q : Bool → Hp → Prop, (∀ H', Same H H' → Q b H') → wT X e σ H Q
structure Tw (X : Cx) (cl : Nat → Addr) (e : Expr) (f : EE) : Prop where
  run : ∀ (W : List Addr) (env : Env) (b : Bool), f env = some (.bl b) → ∀ (σ : St) (H : Hp), EV X.K cl W H σ env → VD W H → ∀ Q : Bool → Hp → Prop, (∀ H', Same H H' → Q b H') → wW X e σ H Q
section
variable {X : Cx} {cl : Nat → Addr} {a b c e : Expr} {f g h : EE} {pos : Pos} {rest : List Expr}
theorem Tw.te (h : Tw X cl e f) : Te X cl e f := ⟨fun W env b q σ H E V Q k => fun pins s I => h.run W env b q σ H E V Q k _ pins s I⟩
theorem te_val (h : Pk X cl e f) (he : ∀ whole, isTrue e X.env whole = (do let v ← whole; standAt e.pos; holding [v] (truthy v)) := by intro _; rfl) : Te X cl e f := ⟨fun W env b q σ H E V Q k => by
  refine wT.of (pt_val pe_w he) ?_
  refine h.run W env _ q σ H E V _ fun v H1 F s1 o1 => ?_
  exact ⟨b, own_bl o1, k H1 s1⟩⟩
theorem te_cmp {op : CmpOp} {G : D → D → Option D} (o : GO X cl (compareOp op) G) (ha : Pk X cl a f) (hb : Pk X cl b g) (hm : behindInMarks op b = false) : Te X cl (.Compare a [op] [b] pos) (eOp G f g) := ⟨fun W env d q σ H E V Q k => by
  obtain ⟨dx, dy, e1, e2, e3⟩ := bind2 q
  obtain ⟨r, hr, run⟩ := o.run dx dy _ e3
  refine wT.of (pt_cmpR hr pe_w pe_w hm) ?_
  refine ha.run W env dx e1 σ H E V _ fun v H1 F s1 o1 => ?_
  refine hb.run W env dy e2 σ H1 (E.mono s1) (V.mono s1) _ fun u H2 G' s2 o2 => ?_
  exact run W H2 v u F G' ((V.mono s1).mono s2) (o1.mono s2) o2 _ fun z H3 F3 s3 o3 n3 f3 => ⟨d, own_bl o3, k H3 ((s1.trans s2).trans s3)⟩⟩
theorem te_isN {j pos'} (ha : Pk X cl a f) : Te X cl (.Compare a [.Is] [.Constant .none j pos'] pos) (eUn gIsN f) := ⟨fun W env d q σ H E V Q k => by
  obtain ⟨dx, e1, e2⟩ := bind1 q
  have hd : dx ≠ .hole ∧ d = isNon dx := by
    unfold gIsN at e2
    split at e2
    · cases e2
    · rename_i hh
      cases e2
      exact ⟨fun z => hh z, rfl⟩
  obtain ⟨h1, rfl⟩ := hd
  refine wT.of (pt_cmpR op_isN pe_w pe_non (nomark _)) ?_
  refine ha.run W env dx e1 σ H E V _ fun v H1 F s1 o1 => ⟨rfl, ?_⟩
  rw [own_isNon o1 h1]
  exact ⟨_, rfl, k _ s1⟩⟩
theorem te_notN {j pos'} (ha : Pk X cl a f) : Te X cl (.Compare a [.IsNot] [.Constant .none j pos'] pos) (eUn gNotN f) := ⟨fun W env d q σ H E V Q k => by
  obtain ⟨dx, e1, e2⟩ := bind1 q
  have hd : dx ≠ .hole ∧ d = !isNon dx := by
    unfold gNotN at e2
    split at e2
    · cases e2
    · rename_i hh
      cases e2
      exact ⟨fun z => hh z, rfl⟩
  obtain ⟨h1, rfl⟩ := hd
  refine wT.of (pt_cmpR op_notN pe_w pe_non (nomark _)) ?_
  refine ha.run W env dx e1 σ H E V _ fun v H1 F s1 o1 => ⟨rfl, ?_⟩
  rw [own_isNon o1 h1]
  exact ⟨_, rfl, k _ s1⟩⟩
theorem chain_inv {G G' : D → D → Option D} {env : Env} {d : D} (q : eChain G G' f g h env = some d) : ∃ x y, f env = some x ∧ g env = some y ∧ ((G x y = some (.bl true) ∧ ∃ z, h env = some z ∧ G' y z = some d) ∨ (G x y = some (.bl false) ∧ d = .bl false)) := by
  unfold eChain at q
  obtain ⟨x, y, e1, e2, q⟩ := bind2 q
  refine ⟨x, y, e1, e2, ?_⟩
  split at q
  · rename_i e3
    obtain ⟨z, e4, e5⟩ := bind1 q
    exact .inl ⟨e3, z, e4, e5⟩
  · rename_i e3
    cases q
    exact .inr ⟨e3, rfl⟩
  · cases q
/-- both comparisons by one rule each -/
structure GC (X : Cx) (cl : Nat → Addr) (f : Value → Value → Sem Value) (g : D → D → Option D) (r : R2) : Prop where
  rule : OpR X f r
  run : ∀ dx dy d, g dx dy = some d → ∀ W H x y Fx Fy, VD W H → Own X.K cl W H x dx Fx → Own X.K cl W H y dy Fy → ∀ Q : VK, Po X.K cl W H d Q → r x y H Q
theorem gc_I0 {F : Value → Value → Sem Value} {p : Int → Int → Bool} {G : D → D → Option D} (ho : OpR X F (rI0 fun i j => .bl (p i j))) (hG : ∀ dx dy d, G dx dy = some d → ∃ i j, dx = .int i ∧ dy = .int j ∧ d = .bl (p i j)) : GC X cl F G (rI0 fun i j => .bl (p i j)) := ⟨ho, fun dx dy d q W H x y Fx Fy V ox oy Q k => by
  obtain ⟨i, j, rfl, rfl, rfl⟩ := hG dx dy d q
  cases own_int ox
  cases own_int oy
  exact ⟨i, j, rfl, rfl, k.bl⟩⟩
theorem gc_lt : GC X cl (compareOp .Lt) gLt (rI0 fun i j => .bl (decide (i < j))) := gc_I0 op_lt fun dx dy d q => by
  unfold gLt at q
  split at q
  · cases q; exact ⟨_, _, rfl, rfl, rfl⟩
  · cases q
theorem gc_le : GC X cl (compareOp .LtE) gLe (rI0 fun i j => .bl (decide (i ≤ j))) := gc_I0 op_le fun dx dy d q => by
  unfold gLe at q
  split at q
  · cases q; exact ⟨_, _, rfl, rfl, rfl⟩
  · cases q
theorem chain_run {r r' : R2} {op op' : CmpOp} {G G' : D → D → Option D} (o : GC X cl (compareOp op) G r) (o' : GC X cl (compareOp op') G' r') (ha : Pk X cl a f) (hb : Pk X cl b g) (hc : Pk X cl c h)
    {W : List Addr} {env : Env} {d : D} (q : eChain G G' f g h env = some d) {σ : St} {H : Hp} (E : EV X.K cl W H σ env) (V : VD W H) {Q : VK} (k : Po X.K cl W H d Q) : tChain r r' (wE X a) (wE X b) (wE X c) σ H Q := by
  obtain ⟨x, y, e1, e2, q⟩ := chain_inv q
  refine ha.run W env x e1 σ H E V _ fun v H1 F s1 o1 => ?_
  refine hb.run W env y e2 σ H1 (E.mono s1) (V.mono s1) _ fun u H2 F2 s2 o2 => ?_
  have s := s1.trans s2
  rcases q with ⟨e3, z, e4, e5⟩ | ⟨e3, rfl⟩
  · refine o.run x y _ e3 W H2 v u F F2 (V.mono s) (o1.mono s2) o2 _ fun w' H3 F3 s3 o3 _ _ => ?_
    refine ⟨true, own_bl o3, ?_⟩
    rw [if_pos rfl]
    have s' := s.trans s3
    refine hc.run W env z e4 σ H3 (E.mono s') (V.mono s') _ fun t H4 F4 s4 o4 => ?_
    exact o'.run y z d e5 W H4 u t F2 F4 (V.mono (s'.trans s4)) ((o2.mono s3).mono s4) o4 Q fun r H5 F5 s5 o5 n5 f5 => k r H5 F5 ((s'.trans s4).trans s5) o5 n5 fun b hb => Same.back (s'.trans s4) (f5 b hb)
  · refine o.run x y _ e3 W H2 v u F F2 (V.mono s) (o1.mono s2) o2 _ fun w' H3 F3 s3 o3 _ _ => ?_
    refine ⟨false, own_bl o3, ?_⟩
    rw [if_neg Bool.false_ne_true]
    exact k _ H3 [] (s.trans s3) (.bl false) List.nodup_nil (fun _ z => nomatch z)
theorem se_chain {op op' : CmpOp} {G G' : D → D → Option D} {r r' : R2} (o : GC X cl (compareOp op) G r) (o' : GC X cl (compareOp op') G' r') (ha : Pk X cl a f) (hb : Pk X cl b g) (hc : Pk X cl c h)
    (hm : lastMarks [op, op'] [b, c] = false := by with_unfolding_all rfl) : Se X cl (.Compare a [op, op'] [b, c] pos) (eChain G G' f g h) := ⟨fun W env d q σ H E V Q k =>
  wE.of (pe_chain o.rule o'.rule pe_w pe_w pe_w hm) (chain_run o o' ha hb hc q E V k)⟩
theorem te_chain {op op' : CmpOp} {G G' : D → D → Option D} {r r' : R2} (o : GC X cl (compareOp op) G r) (o' : GC X cl (compareOp op') G' r') (ha : Pk X cl a f) (hb : Pk X cl b g) (hc : Pk X cl c h)
    (hm : lastMarks [op, op'] [b, c] = false := by with_unfolding_all rfl) : Te X cl (.Compare a [op, op'] [b, c] pos) (eChain G G' f g h) := ⟨fun W env d q σ H E V Q k =>
  wT.of (pt_chain o.rule o'.rule pe_w pe_w pe_w hm) (chain_run o o' ha hb hc q E V fun v H1 F s1 o1 _ _ => ⟨d, own_bl o1, k H1 s1⟩)⟩
/-! ### and, or, not, if else -/
theorem and_inv {env : Env} {d : D} (q : eAnd f g env = some d) : (f env = some (.bl true) ∧ g env = some d) ∨ (f env = some (.bl false) ∧ d = .bl false) := by
  unfold eAnd at q
  split at q
  · rename_i e; exact .inl ⟨e, q⟩
  · rename_i e; cases q; exact .inr ⟨e, rfl⟩
  · cases q
theorem or_inv {env : Env} {d : D} (q : eOr f g env = some d) : (f env = some (.bl false) ∧ g env = some d) ∨ (f env = some (.bl true) ∧ d = .bl true) := by
  unfold eOr at q
  split at q
  · rename_i e; exact .inl ⟨e, q⟩
  · rename_i e; cases q; exact .inr ⟨e, rfl⟩
  · cases q
theorem tw_one_and (h : Te X cl a f) : Tw X cl (.BoolOp .And [a] pos) f := ⟨fun W env d q σ H E V Q k => wW.of (pw_and1 pt_w) (h.run W env d q σ H E V Q k)⟩
theorem tw_one_or (h : Te X cl a f) : Tw X cl (.BoolOp .Or [a] pos) f := ⟨fun W env d q σ H E V Q k => wW.of (pw_or1 pt_w) (h.run W env d q σ H E V Q k)⟩
theorem tw_and (ha : Te X cl a f) (hb : Tw X cl (.BoolOp .And (b :: rest) pos) g) : Tw X cl (.BoolOp .And (a :: b :: rest) pos) (eAnd f g) := ⟨fun W env d q σ H E V Q k => by
  refine wW.of (pw_and pt_w pw_w) ?_
  rcases and_inv q with ⟨e1, e2⟩ | ⟨e1, e2⟩
  · refine ha.run W env true e1 σ H E V _ fun H1 s1 => ?_
    rw [if_pos rfl]
    exact hb.run W env d e2 σ H1 (E.mono s1) (V.mono s1) Q fun H2 s2 => k H2 (s1.trans s2)
  · cases e2
    refine ha.run W env false e1 σ H E V _ fun H1 s1 => ?_
    rw [if_neg Bool.false_ne_true]
    exact k H1 s1⟩
theorem tw_or (ha : Te X cl a f) (hb : Tw X cl (.BoolOp .Or (b :: rest) pos) g) : Tw X cl (.BoolOp .Or (a :: b :: rest) pos) (eOr f g) := ⟨fun W env d q σ H E V Q k => by
  refine wW.of (pw_or pt_w pw_w) ?_
  rcases or_inv q with ⟨e1, e2⟩ | ⟨e1, e2⟩
  · refine ha.run W env false e1 σ H E V _ fun H1 s1 => ?_
    rw [if_neg Bool.false_ne_true]
    exact hb.run W env d e2 σ H1 (E.mono s1) (V.mono s1) Q fun H2 s2 => k H2 (s1.trans s2)
  · cases e2
    refine ha.run W env true e1 σ H E V _ fun H1 s1 => ?_
    rw [if_pos rfl]
    exact k H1 s1⟩
theorem not_inv {env : Env} {d : D} (q : eUn gNot f env = some d) : ∃ k, f env = some (.bl k) ∧ d = .bl (!k) := by
  obtain ⟨x, e1, e2⟩ := bind1 q
  unfold gNot at e2
  split at e2
  · cases e2; exact ⟨_, e1, rfl⟩
  · cases e2
theorem te_not (ha : Te X cl a f) : Te X cl (.UnaryOp .Not a pos) (eUn gNot f) := ⟨fun W env d q σ H E V Q k => by
  obtain ⟨b', e1, e2⟩ := not_inv q
  cases e2
  exact wT.of (pt_not pt_w) (ha.run W env b' e1 σ H E V _ fun H1 s1 => k H1 s1)⟩
theorem se_one {op} (h : Se X cl a f) : Se X cl (.BoolOp op [a] pos) f := ⟨fun W env d q σ H E V Q k => wE.of (pe_one pe_w) (h.run W env d q σ H E V Q k)⟩
theorem se_and (ha : Pk X cl a f) (hb : Se X cl (.BoolOp .And (b :: rest) pos) g) : Se X cl (.BoolOp .And (a :: b :: rest) pos) (eAnd f g) := ⟨fun W env d q σ H E V Q k => by
  refine wE.of (pe_and pe_w pe_w) ?_
  rcases and_inv q with ⟨e1, e2⟩ | ⟨e1, rfl⟩
  · refine ha.run W env _ e1 σ H E V _ fun v H1 F s1 o1 => ⟨true, own_bl o1, ?_⟩
    rw [if_pos rfl]
    exact hb.run W env d e2 σ H1 (E.mono s1) (V.mono s1) Q fun u H2 G s2 o2 n2 f2 => k u H2 G (s1.trans s2) o2 n2 fun x hx => Same.back s1 (f2 x hx)
  · refine ha.run W env _ e1 σ H E V _ fun v H1 F s1 o1 => ⟨false, own_bl o1, ?_⟩
    rw [if_neg Bool.false_ne_true]
    exact k _ H1 [] s1 (.bl false) List.nodup_nil (fun _ z => nomatch z)⟩
theorem se_or (ha : Pk X cl a f) (hb : Se X cl (.BoolOp .Or (b :: rest) pos) g) : Se X cl (.BoolOp .Or (a :: b :: rest) pos) (eOr f g) := ⟨fun W env d q σ H E V Q k => by
  refine wE.of (pe_or pe_w pe_w) ?_
  rcases or_inv q with ⟨e1, e2⟩ | ⟨e1, rfl⟩
  · refine ha.run W env _ e1 σ H E V _ fun v H1 F s1 o1 => ⟨false, own_bl o1, ?_⟩
    rw [if_neg Bool.false_ne_true]
    exact hb.run W env d e2 σ H1 (E.mono s1) (V.mono s1) Q fun u H2 G s2 o2 n2 f2 => k u H2 G (s1.trans s2) o2 n2 fun x hx => Same.back s1 (f2 x hx)
  · refine ha.run W env _ e1 σ H E V _ fun v H1 F s1 o1 => ⟨true, own_bl o1, ?_⟩
    rw [if_pos rfl]
    exact k _ H1 [] s1 (.bl true) List.nodup_nil (fun _ z => nomatch z)⟩
theorem se_not (ha : Pk X cl a f) : Se X cl (.UnaryOp .Not a pos) (eUn gNot f) := ⟨fun W env d q σ H E V Q k => by
  obtain ⟨b', e1, rfl⟩ := not_inv q
  refine wE.of (pe_not pe_w) ?_
  refine ha.run W env _ e1 σ H E V _ fun v H1 F s1 o1 => ⟨b', own_bl o1, ?_⟩
  exact k _ H1 [] s1 (.bl _) List.nodup_nil (fun _ z => nomatch z)⟩
theorem se_neg (ha : Pk X cl a f) : Se X cl (.UnaryOp .USub a pos) (eUn gNeg f) := ⟨fun W env d q σ H E V Q k => by
  obtain ⟨x, e1, e2⟩ := bind1 q
  unfold gNeg at e2
  split at e2
  · cases e2
    refine wE.of (pe_un un_neg pe_w) ?_
    refine ha.run W env _ e1 σ H E V _ fun v H1 F s1 o1 => ⟨_, own_int o1, ?_⟩
    exact k _ H1 [] s1 (.int _) List.nodup_nil (fun _ z => nomatch z)
  · cases e2⟩
theorem se_ifx (hc : Te X cl c h) (ha : Se X cl a f) (hb : Se X cl b g) : Se X cl (.IfExp c a b pos) (eIf h f g) := ⟨fun W env d q σ H E V Q k => by
  refine wE.of (pe_ifExp pt_w pe_w pe_w) ?_
  unfold eIf at q
  split at q
  · rename_i e1
    refine hc.run W env true e1 σ H E V _ fun H1 s1 => ?_
    rw [if_pos rfl]
    exact ha.run W env d q σ H1 (E.mono s1) (V.mono s1) Q fun u H2 G s2 o2 n2 f2 => k u H2 G (s1.trans s2) o2 n2 fun x hx => Same.back s1 (f2 x hx)
  · rename_i e1
    refine hc.run W env false e1 σ H E V _ fun H1 s1 => ?_
    rw [if_neg Bool.false_ne_true]
    exact hb.run W env d q σ H1 (E.mono s1) (V.mono s1) Q fun u H2 G s2 o2 n2 f2 => k u H2 G (s1.trans s2) o2 n2 fun x hx => Same.back s1 (f2 x hx)
  · cases q⟩
/-! ### built-ins -/
theorem own1 {x : L2.V} {d : D} {K : PySem.W.Frag} {W : List Addr} {H : Hp} {vs : List L2.V} {F : List Addr} (h : Owns K cl W H vs [d] F) : ∃ v, vs = [v] ∧ Own K cl W H v d F := by
  cases h with
  | cons h hs =>
    cases hs
    rw [List.append_nil]
    exact ⟨_, rfl, h⟩
/-- a call of a built-in by one value -/
structure GF (X : Cx) (cl : Nat → Addr) (f : Value) (g : D → Option D) : Prop where
  run : ∀ dx d, g dx = some d → ∃ r : List L2.V → Hp → VK → Prop, CallR X f r ∧ ∀ W H x Fx, VD W H → Own X.K cl W H x dx Fx → ∀ Q : VK, Po X.K cl W H d Q → r [x] H Q
theorem se_fn {id : String} {x : Str} {p : Pos} {G : D → Option D} (o : GF X cl (.builtin id) G) (hg : Gl X x) (hm : X.mg x = none) (hv : bootBuiltins x = some (.builtin id)) (ha : Pk X cl a f) (hn : x ≠ "__name__" := by decide) (hdb : (x == ("__debug__" : Str)) = false := by decide)
    (h1 : starEach [a] X.env = (false, eval a X.env) :: starEach [] X.env := by rfl) (he : starEach (a :: []) X.env = (false, eval a X.env) :: starEach [] X.env := by rfl) (hpl : (backTo pos (starEach [] X.env)).any (·.1) = false := by rfl) :
    Se X cl (.Call (.Name x p) [a] [] pos) (eUn G f) := ⟨fun W env d q σ H E V Q k => by
  obtain ⟨dx, e1, e2⟩ := bind1 q
  obtain ⟨r, hr, run⟩ := o.run dx d e2
  refine wE.of (pe_callB hr hg hm hv (pa_cons pe_w pa_nil h1) hn hdb he hpl) ?_
  refine ha.run W env dx e1 σ H E V _ fun v H1 F s1 o1 => ?_
  exact run W H1 v F (V.mono s1) o1 Q fun z H3 F3 s3 o3 n3 f3 => k z H3 F3 (s1.trans s3) o3 n3 fun y hy => Same.back s1 (f3 y hy)⟩
theorem se_ty {T : String} {x : Str} {p : Pos} {G : D → Option D} (o : GF X cl (.type T) G) (hg : Gl X x) (hm : X.mg x = none) (hv : bootBuiltins x = some (.type T)) (ha : Pk X cl a f) (hn : x ≠ "__name__" := by decide) (hdb : (x == ("__debug__" : Str)) = false := by decide)
    (h1 : starEach [a] X.env = (false, eval a X.env) :: starEach [] X.env := by rfl) (he : starEach (a :: []) X.env = (false, eval a X.env) :: starEach [] X.env := by rfl) (hpl : (backTo pos (starEach [] X.env)).any (·.1) = false := by rfl) :
    Se X cl (.Call (.Name x p) [a] [] pos) (eUn G f) := ⟨fun W env d q σ H E V Q k => by
  obtain ⟨dx, e1, e2⟩ := bind1 q
  obtain ⟨r, hr, run⟩ := o.run dx d e2
  refine wE.of (pe_callTy hr hg hm hv (pa_cons pe_w pa_nil h1) hn hdb he hpl) ?_
  refine ha.run W env dx e1 σ H E V _ fun v H1 F s1 o1 => ?_
  exact run W H1 v F (V.mono s1) o1 Q fun z H3 F3 s3 o3 n3 f3 => k z H3 F3 (s1.trans s3) o3 n3 fun y hy => Same.back s1 (f3 y hy)⟩
theorem gf_len : GF X cl (.builtin "len") gLen := ⟨fun dx d q => by
  refine ⟨_, call_len, fun W H x Fx V o Q k => ?_⟩
  unfold gLen at q
  split at q
  · cases q
    obtain ⟨p, vs, rfl, hp, hs⟩ := own_tup o
    refine ⟨_, _, rfl, .inr ⟨vs, hp, rfl⟩, ?_⟩
    rw [hs.length]
    exact k.int
  · cases q
    obtain ⟨p, vs, G, rfl, hp, hs, _⟩ := own_lst o
    refine ⟨_, _, rfl, .inl ⟨vs, SqL.of hp, rfl⟩, ?_⟩
    rw [hs.length]
    exact k.int
  · split at q
    · cases q
      cases own_str o
      refine ⟨_, _, rfl, ⟨by rename_i hz; rw [line_eq] at hz; simpa [Str.length] using hz, rfl⟩, ?_⟩
      rename_i xs _
      have e : (⟨xs.toArray⟩ : Str).length = xs.length := by simp [Str.length]
      rw [e]
      exact k.int
    · cases q
  · cases q
    obtain ⟨p, rfl, hp⟩ := own_scr o
    refine ⟨_, _, rfl, .inl ⟨_, hp, rfl⟩, ?_⟩
    rw [List.length_map]
    exact k.int
  · cases q⟩
theorem gf_list : GF X cl (.type "list") gList := ⟨fun dx d q => by
  refine ⟨_, call_list_of, fun W H x Fx V o Q k => ?_⟩
  unfold gList at q
  split at q
  · split at q
    · rename_i hs'
      cases q
      obtain ⟨p, vs, rfl, hp, hs⟩ := own_tup o
      exact ⟨p, vs, rfl, .inr hp, fun l hl => Po.lst k (hs.shs hs') l hl⟩
    · cases q
  · split at q
    · rename_i hs'
      cases q
      obtain ⟨p, vs, G, rfl, hp, hs, _⟩ := own_lst o
      exact ⟨p, vs, rfl, .inl (SqL.of hp), fun l hl => Po.lst k (hs.shs hs') l hl⟩
    · cases q
  · cases q
    obtain ⟨p, rfl, hp⟩ := own_scr o
    exact ⟨p, _, rfl, .inl hp, fun l hl => Po.lst k own_ints l hl⟩
  · cases q⟩
theorem gf_tuple : GF X cl (.type "tuple") gTuple := ⟨fun dx d q => by
  refine ⟨_, call_tuple_of, fun W H x Fx V o Q k => ?_⟩
  unfold gTuple at q
  split at q
  · split at q
    · rename_i hs'
      cases q
      obtain ⟨p, vs, rfl, hp, hs⟩ := own_tupH o
      exact ⟨p, vs, rfl, .inr ⟨SqT.of hp, Po.tup0 k (hs.shs hs') hp⟩⟩
    · cases q
  · split at q
    · rename_i hs'
      cases q
      obtain ⟨p, vs, G, rfl, hp, hs, _⟩ := own_lst o
      exact ⟨p, vs, rfl, .inl ⟨SqL.of hp, fun l hl => Po.tup k (hs.shs hs') l hl⟩⟩
    · cases q
  · cases q⟩
theorem gf_int : GF X cl (.type "int") gInt := ⟨fun dx d q => by
  refine ⟨_, call_int1, fun W H x Fx V o Q k => ?_⟩
  unfold gInt at q
  split at q
  · cases q
    cases own_int o
    exact .inl ⟨_, rfl, k.int⟩
  · cases q
    cases own_bl o
    exact .inr ⟨_, rfl, k.int⟩
  · cases q⟩
end
end Tg

namespace Tg
open PySem PySem.Spec L2
/-! ### the frame's own things -/
inductive Sl (K : PySem.W.Frag) (cl : Nat → Addr) (W : List Addr) (H : Hp) : St → Env → List Addr → Prop
  | nil : Sl K cl W H [] [] []
  | skip (o : Option V) {σ : St} {env : Env} {F : List Addr} : Sl K cl W H σ env F → Sl K cl W H (o :: σ) (.hole :: env) F
  | cons {v : V} {d : D} {σ : St} {env : Env} {G F : List Addr} : Own K cl W H v d G → Sl K cl W H σ env F → Sl K cl W H (some v :: σ) (d :: env) (G ++ F)
/-- a slot's content -/
def At (K : PySem.W.Frag) (cl : Nat → Addr) (W : List Addr) (H : Hp) (o : Option V) (d : D) (G : List Addr) : Prop := (d = .hole ∧ G = []) ∨ ∃ v, o = some v ∧ Own K cl W H v d G
section
variable {K : PySem.W.Frag} {cl : Nat → Addr} {W W' : List Addr} {H H' : Hp} {σ : St} {env : Env} {F : List Addr}
theorem At.keep {o : Option V} {d : D} {G : List Addr} (h : At K cl W H o d G) (k : Keep W W' G H H') : At K cl W' H' o d G := by
  rcases h with h | ⟨v, e, h⟩
  · exact .inl h
  · exact .inr ⟨v, e, h.keep k⟩
theorem At.sl {o : Option V} {d : D} {G : List Addr} (h : At K cl W H o d G) (r : Sl K cl W H σ env F) : Sl K cl W H (o :: σ) (d :: env) (G ++ F) := by
  rcases h with ⟨rfl, rfl⟩ | ⟨v, rfl, h⟩
  · exact .skip o r
  · exact .cons h r
theorem Sl.keep : ∀ {σ : St} {env : Env} {F : List Addr}, Sl K cl W H σ env F → Keep W W' F H H' → Sl K cl W' H' σ env F
  | _, _, _, .nil, _ => .nil
  | _, _, _, .skip o r, k => .skip o (Sl.keep r k)
  | _, _, _, .cons h r, k => .cons (h.keep k.app1) (Sl.keep r k.app2)
theorem Sl.len : ∀ {σ : St} {env : Env} {F : List Addr}, Sl K cl W H σ env F → σ.length = env.length
  | _, _, _, .nil => rfl
  | _, _, _, .skip o r => by rw [List.length_cons, List.length_cons, r.len]
  | _, _, _, .cons h r => by rw [List.length_cons, List.length_cons, r.len]
theorem Sl.zoom : ∀ {σ : St} {env : Env} {F : List Addr} {i : Nat} {d : D}, Sl K cl W H σ env F → env[i]? = some d → ∃ o G F1 F2, σ[i]? = some o ∧ F = F1 ++ (G ++ F2) ∧ At K cl W H o d G ∧
    ∀ (W' : List Addr) (H' : Hp) (o' : Option V) (d' : D) (G' : List Addr), Keep W W' (F1 ++ F2) H H' → At K cl W' H' o' d' G' → Sl K cl W' H' (σ.set i o') (env.set i d') (F1 ++ (G' ++ F2))
  | _, _, _, _, _, .nil, e => by simp at e
  | _, _, F, 0, d, .skip o r, e => by
    simp at e
    subst e
    exact ⟨o, [], [], F, rfl, rfl, .inl ⟨rfl, rfl⟩, fun W' H' o' d' G' k a => a.sl (r.keep k)⟩
  | _, _, _, 0, d, .cons (v := v) (G := G) (F := F) h r, e => by
    simp at e
    subst e
    exact ⟨some v, G, [], F, rfl, rfl, .inr ⟨v, rfl, h⟩, fun W' H' o' d' G' k a => a.sl (r.keep k)⟩
  | _, _, _, i + 1, d, .skip o r, e => by
    obtain ⟨o1, G, F1, F2, h1, h2, h3, h4⟩ := Sl.zoom (i := i) (d := d) r (by simpa using e)
    exact ⟨o1, G, F1, F2, by simpa using h1, h2, h3, fun W' H' o' d' G' k a => .skip o (h4 W' H' o' d' G' k a)⟩
  | _, _, _, i + 1, d, .cons (G := G0) h r, e => by
    obtain ⟨o1, G, F1, F2, h1, h2, h3, h4⟩ := Sl.zoom (i := i) (d := d) r (by simpa using e)
    refine ⟨o1, G, G0 ++ F1, F2, by simpa using h1, by rw [h2, List.append_assoc], h3, fun W' H' o' d' G' k a => ?_⟩
    rw [List.append_assoc]
    rw [List.append_assoc] at k
    exact .cons (h.keep k.app1) (h4 W' H' o' d' G' k.app2 a)
theorem Sl.tracked : ∀ {σ : St} {env : Env} {F : List Addr}, Sl K cl W H σ env F → ∀ a ∈ F, H a ≠ none
  | _, _, _, .nil, _, h => nomatch h
  | _, _, _, .skip o r, a, h => r.tracked a h
  | _, _, _, .cons h r, a, ha => (List.mem_append.mp ha).elim (h.tracked a) (r.tracked a)
theorem Sl.ev (r : Sl K cl W H σ env F) : EV K cl W H σ env := ⟨r.len, fun i d e hd => by
  obtain ⟨o, G, F1, F2, h1, h2, h3, _⟩ := r.zoom e
  rcases h3 with ⟨h3, _⟩ | ⟨v, rfl, h3⟩
  · exact absurd h3 hd
  · exact ⟨v, G, h1, h3⟩⟩
end
/-- the frame's state: R what others have -/
structure ER (K : PySem.W.Frag) (cl : Nat → Addr) (R F : List Addr) (σ : St) (H : Hp) (env : Env) : Prop where
  sl : Sl K cl (R ++ F) H σ env F
  nd : F.Nodup
  ap : ∀ a ∈ F, a ∉ R
  vd : VD R H
/-- what a run may change -/
structure Fr (F : List Addr) (H : Hp) (F' : List Addr) (H' : Hp) : Prop where
  keep : ∀ a o, H a = some o → a ∉ F → H' a = some o
  tup : ∀ a vs, H a = some (.tup vs) → H' a = some (.tup vs)
  frz : ∀ a o u, H a = some (.frz o u) → H' a = some (.frz o u)
  back : ∀ a, H' a = none → H a = none
  new : ∀ a ∈ F', a ∈ F ∨ H a = none
section
variable {K : PySem.W.Frag} {cl : Nat → Addr} {R F F' F'' : List Addr} {H H' H'' : Hp} {σ : St} {env : Env}
theorem Fr.refl : Fr F H F H := ⟨fun _ _ h _ => h, fun _ _ h => h, fun _ _ _ h => h, fun _ h => h, fun _ h => .inl h⟩
theorem Fr.trans (a : Fr F H F' H') (b : Fr F' H' F'' H'') : Fr F H F'' H'' where
  keep := fun x o h n => b.keep x o (a.keep x o h n) fun z => (a.new x z).elim n fun q => by rw [h] at q; cases q
  tup := fun x vs h => b.tup x vs (a.tup x vs h)
  frz := fun x o u h => b.frz x o u (a.frz x o u h)
  back := fun x h => a.back x (b.back x h)
  new := fun x h => (b.new x h).elim (a.new x) fun q => .inr (a.back x q)
theorem Fr.same (s : Same H H') (n : ∀ a ∈ F', a ∈ F ∨ H a = none) : Fr F H F' H' := ⟨fun a o h _ => s a o h, fun a vs h => s _ _ h, fun a o u h => s _ _ h, fun a h => Same.back s h, n⟩
theorem ER.ev (e : ER K cl R F σ H env) : EV K cl (R ++ F) H σ env := e.sl.ev
theorem ER.vd' (e : ER K cl R F σ H env) : VD (R ++ F) H := fun a ha => (List.mem_append.mp ha).elim (e.vd a) (e.sl.tracked a)
theorem ER.mono (e : ER K cl R F σ H env) (s : Same H H') : ER K cl R F σ H' env := ⟨e.sl.keep (Keep.same s), e.nd, e.ap, e.vd.mono s⟩
/-- a slot is given a new value -/
theorem ER.set (e : ER K cl R F σ H env) {i : Nat} (hi : i < env.length) {v : V} {d : D} {G : List Addr} (s : Same H H') (o : Own K cl (G ++ (R ++ F)) H' v d G) (n : G.Nodup) (f : ∀ a ∈ G, H a = none) :
    ∃ F', ER K cl R F' (σ.set i (some v)) H' (env.set i d) ∧ Fr F H F' H' := by
  obtain ⟨d0, hd0⟩ : ∃ d0, env[i]? = some d0 := ⟨_, List.getElem?_eq_getElem hi⟩
  obtain ⟨o1, G1, F1, F2, h1, h2, h3, h4⟩ := e.sl.zoom hd0
  have e' := e.mono s
  have gF : ∀ a ∈ G, a ∉ R ++ F := fun a ha z => e.vd' a z (f a ha)
  refine ⟨F1 ++ (G ++ F2), ⟨h4 _ H' (some v) d G ⟨fun a _ o q => s _ _ q, fun a o _ q => s _ _ q, fun a vs q => s _ _ q, fun a o u q => s _ _ q, fun a ha hn z => ?_⟩ (.inr ⟨v, rfl, o.keep ⟨fun a _ o q => q, fun a o _ q => q, fun a vs q => q, fun a o u q => q, fun a ha hn z => ?_⟩⟩), ?_, ?_, e'.vd⟩, Fr.same s ?_⟩
  · rw [h2] at ha
    simp only [List.mem_append, not_or] at ha z
    rcases z with z | z | z | z
    · exact ha.1 z
    · exact ha.2.1 z
    · exact hn (f a z)
    · exact ha.2.2.2 z
  · rw [h2] at ha
    simp only [List.mem_append, not_or] at ha z
    rcases z with z | z | z | z
    · exact ha.2.1 z
    · exact ha.2.2.1 z
    · exact ha.1 z
    · exact ha.2.2.2.2 z
  · have nd := e.nd
    rw [h2] at nd
    rw [List.nodup_append] at nd ⊢
    obtain ⟨n1, n2, n3⟩ := nd
    rw [List.nodup_append] at n2
    obtain ⟨n4, n5, n6⟩ := n2
    refine ⟨n1, List.nodup_append.mpr ⟨n, n5, fun a ha b hb q => gF a ha ?_⟩, fun a ha b hb q => ?_⟩
    · rw [q, h2]; simp [hb]
    · rcases List.mem_append.mp hb with hb | hb
      · exact gF b hb (by rw [← q, h2]; simp [ha])
      · exact n3 a ha b (List.mem_append_right _ hb) q
  · intro a ha
    simp only [List.mem_append] at ha
    rcases ha with ha | ha | ha
    · exact e.ap a (by rw [h2]; simp [ha])
    · exact fun z => gF a ha (by simp [z])
    · exact e.ap a (by rw [h2]; simp [ha])
  · intro a ha
    simp only [List.mem_append] at ha
    rcases ha with ha | ha | ha
    · exact .inl (by rw [h2]; simp [ha])
    · exact .inr (f a ha)
    · exact .inl (by rw [h2]; simp [ha])
end
end Tg

namespace Tg
open PySem PySem.Spec L2
def Pin (io : List Nat) (σ σ' : St) : Prop := ∀ i ∈ io, σ'[i]? = σ[i]?
theorem Pin.refl {io : List Nat} {σ : St} : Pin io σ σ := fun _ _ => rfl
theorem Pin.trans {io : List Nat} {σ σ1 σ2 : St} (a : Pin io σ σ1) (b : Pin io σ1 σ2) : Pin io σ σ2 := fun i h => (b i h).trans (a i h)
theorem Pin.set {io : List Nat} {σ : St} {i : Nat} {o : Option V} (h : i ∉ io) : Pin io σ (σ.set i o) := fun j hj => List.getElem?_set_ne fun e => h (by rw [e]; exact hj)
/-- a value, apart from the frame's own things -/
structure EP (K : PySem.W.Frag) (cl : Nat → Addr) (R G F : List Addr) (σ : St) (H : Hp) (env : Env) : Prop where
  sl : Sl K cl (G ++ (R ++ F)) H σ env F
  nd : F.Nodup
  ap : ∀ a ∈ F, a ∉ R
  vd : VD R H
  gn : G.Nodup
  gr : ∀ a ∈ G, a ∉ R ∧ a ∉ F
  gt : ∀ a ∈ G, H a ≠ none
section
variable {K : PySem.W.Frag} {cl : Nat → Addr} {R G F F' : List Addr} {H H' : Hp} {σ : St} {env : Env}
theorem ER.ep (e : ER K cl R F σ H env) (s : Same H H') (n : G.Nodup) (f : ∀ a ∈ G, H a = none) (t : ∀ a ∈ G, H' a ≠ none) : EP K cl R G F σ H' env := by
  refine ⟨?_, e.nd, e.ap, e.vd.mono s, n, fun a ha => ⟨fun z => e.vd a z (f a ha), fun z => e.sl.tracked a z (f a ha)⟩, t⟩
  refine (e.sl.keep (Keep.re (K := K) (W' := G ++ (R ++ F)) fun a ha hn z => ?_)).keep (Keep.same s)
  exact (List.mem_append.mp z).elim (fun z => hn (f a z)) ha
theorem EP.er (e : EP K cl R G F σ H env) : ER K cl R F σ H env := ⟨e.sl.keep (Keep.re (K := K) fun a ha _ z => ha (List.mem_append_right _ z)), e.nd, e.ap, e.vd⟩
theorem EP.put (e : EP K cl R G F σ H env) {i : Nat} (hi : i < env.length) {v : V} {d : D} (o : Own K cl (G ++ (R ++ F)) H v d G) :
    ∃ F', ER K cl R F' (σ.set i (some v)) H (env.set i d) ∧ ∀ a ∈ F', a ∈ F ∨ a ∈ G := by
  obtain ⟨d0, hd0⟩ : ∃ d0, env[i]? = some d0 := ⟨_, List.getElem?_eq_getElem hi⟩
  obtain ⟨o1, G1, F1, F2, h1, h2, h3, h4⟩ := e.sl.zoom hd0
  have sub : ∀ a, a ∉ G ++ (R ++ F) → H a ≠ none → a ∉ R ++ (F1 ++ (G ++ F2)) := fun a ha _ z => by
    rw [h2] at ha
    simp only [List.mem_append, not_or] at ha z
    rcases z with z | z | z | z
    · exact ha.2.1 z
    · exact ha.2.2.1 z
    · exact ha.1 z
    · exact ha.2.2.2.2 z
  refine ⟨F1 ++ (G ++ F2), ⟨h4 _ H (some v) d G (Keep.re (K := K) sub) (.inr ⟨v, rfl, o.keep (Keep.re (K := K) sub)⟩), ?_, ?_, e.vd⟩, ?_⟩
  · have nd := e.nd
    rw [h2] at nd
    rw [List.nodup_append] at nd ⊢
    obtain ⟨n1, n2, n3⟩ := nd
    rw [List.nodup_append] at n2
    obtain ⟨n4, n5, n6⟩ := n2
    refine ⟨n1, List.nodup_append.mpr ⟨e.gn, n5, fun a ha b hb q => (e.gr a ha).2 ?_⟩, fun a ha b hb q => ?_⟩
    · rw [q, h2]; simp [hb]
    · rcases List.mem_append.mp hb with hb | hb
      · exact (e.gr b hb).2 (by rw [← q, h2]; simp [ha])
      · exact n3 a ha b (List.mem_append_right _ hb) q
  · intro a ha
    simp only [List.mem_append] at ha
    rcases ha with ha | ha | ha
    · exact e.ap a (by rw [h2]; simp [ha])
    · exact (e.gr a ha).1
    · exact e.ap a (by rw [h2]; simp [ha])
  · intro a ha
    simp only [List.mem_append] at ha
    rcases ha with ha | ha | ha
    · exact .inl (by rw [h2]; simp [ha])
    · exact .inr ha
    · exact .inl (by rw [h2]; simp [ha])
end
/-! ### what is to be shown of a statement -/
def Pst (K : PySem.W.Frag) (cl : Nat → Addr) (io : List Nat) (R F : List Addr) (H : Hp) (σ : St) (fl : Fl) (D : Ends) : Prop := match fl with
  | .nx e' => ∀ σ' H' F', ER K cl R F' σ' H' e' → Fr F H F' H' → Pin io σ σ' → D.nx σ' H'
  | .bk e' => ∀ σ' H' F', ER K cl R F' σ' H' e' → Fr F H F' H' → Pin io σ σ' → D.bk σ' H'
  | .ct e' => ∀ σ' H' F', ER K cl R F' σ' H' e' → Fr F H F' H' → Pin io σ σ' → D.ct σ' H'
  | .rt d e' => ∀ v σ' H' F' G, EP K cl R G F' σ' H' e' → Own K cl (G ++ (R ++ F')) H' v d G → Fr F H (G ++ F') H' → Pin io σ σ' → D.rt v H'
def wS (X : Cx) (st : Stmt) : TS := fun D σ H => ∀ (pins : List (Addr × Obj)) (s : Shared), Inv X pins σ H s → wpAny (model X.prog X.w) X.A (exec st X.env) (L2.SP X pins D) X.xe s
theorem ps_w {X : Cx} {st : Stmt} : PS X st (wS X st) := ⟨fun pins s σ H D I h => h pins s I⟩
theorem wS.of {X : Cx} {st : Stmt} {t : TS} (h : PS X st t) {σ : St} {H : Hp} {D : Ends} (q : t D σ H) : wS X st D σ H := fun pins s I => h.run pins s σ H D I q
def wB (X : Cx) (st : List Stmt) : TS := fun D σ H => ∀ (pins : List (Addr × Obj)) (s : Shared), Inv X pins σ H s → wpAny (model X.prog X.w) X.A (execs st X.env) (L2.SP X pins D) X.xe s
theorem pb_w {X : Cx} {st : List Stmt} : PSs X st (wB X st) := ⟨fun pins s σ H D I h => h pins s I⟩
theorem wB.of {X : Cx} {st : List Stmt} {t : TS} (h : PSs X st t) {σ : St} {H : Hp} {D : Ends} (q : t D σ H) : wB X st D σ H := fun pins s I => h.run pins s σ H D I q
structure Sm (X : Cx) (cl : Nat → Addr) (io : List Nat) (st : Stmt) (f : SS) : Prop where
  run : ∀ (R F : List Addr) (env : Env) (fl : Fl), f env = some fl → ∀ (σ : St) (H : Hp), ER X.K cl R F σ H env → ∀ D : Ends, Pst X.K cl io R F H σ fl D → wS X st D σ H
structure Sb (X : Cx) (cl : Nat → Addr) (io : List Nat) (st : List Stmt) (f : SS) : Prop where
  run : ∀ (R F : List Addr) (env : Env) (fl : Fl), f env = some fl → ∀ (σ : St) (H : Hp), ER X.K cl R F σ H env → ∀ D : Ends, Pst X.K cl io R F H σ fl D → wB X st D σ H
section
variable {X : Cx} {cl : Nat → Addr} {io : List Nat} {a b c e : Expr} {f g h : EE} {pos : Pos} {st : Stmt} {sts : List Stmt} {s t : SS}
theorem Fr.mono {F F' G : List Addr} {H H' : Hp} (a : Fr F H F' H') (h : ∀ x ∈ G, x ∈ F' ∨ H x = none) : Fr F H G H' := ⟨a.keep, a.tup, a.frz, a.back, fun x hx => (h x hx).elim (a.new x) .inr⟩
theorem Fr.trans2 {F F1 F2 : List Addr} {H H1 H2 : Hp} (a : Fr F H F1 H1) (b : Fr F1 H1 F2 H2) : Fr F H F2 H2 := a.trans b
theorem Pst.step {K : PySem.W.Frag} {R F F1 : List Addr} {H H1 : Hp} {σ σ1 : St} {fl : Fl} {D : Ends} (k : Pst K cl io R F H σ fl D) (a : Fr F H F1 H1) (p : Pin io σ σ1) : Pst K cl io R F1 H1 σ1 fl D := by
  cases fl with
  | nx e' => exact fun σ' H' F' er fr pn => k σ' H' F' er (a.trans fr) (p.trans pn)
  | bk e' => exact fun σ' H' F' er fr pn => k σ' H' F' er (a.trans fr) (p.trans pn)
  | ct e' => exact fun σ' H' F' er fr pn => k σ' H' F' er (a.trans fr) (p.trans pn)
  | rt d e' => exact fun v σ' H' F' G ep o fr pn => k v σ' H' F' G ep o (a.trans fr) (p.trans pn)
theorem sb_nil : Sb X cl io [] sNil := ⟨fun R F env fl q σ H E D k => by
  cases q
  exact wB.of pss_nil (k σ H F E Fr.refl Pin.refl)⟩
theorem sb_cons (h1 : Sm X cl io st s) (h2 : Sb X cl io sts t) : Sb X cl io (st :: sts) (sSeq s t) := ⟨fun R F env fl q σ H E D k => by
  refine wB.of (pss_cons ps_w pb_w) ?_
  unfold sSeq at q
  cases e1 : s env with
  | none => rw [e1] at q; cases q
  | some fl1 =>
    rw [e1] at q
    cases fl1 with
    | nx e' => exact h1.run R F env _ e1 σ H E _ fun σ' H' F' er fr pn => h2.run R F' e' fl q σ' H' er D (k.step fr pn)
    | bk e' => cases q; exact h1.run R F env _ e1 σ H E _ k
    | ct e' => cases q; exact h1.run R F env _ e1 σ H E _ k
    | rt d e' => cases q; exact h1.run R F env _ e1 σ H E _ k⟩
theorem sm_pass : Sm X cl io (.Pass pos) sPass := ⟨fun R F env fl q σ H E D k => by
  cases q
  exact wS.of ps_pass (k σ H F E Fr.refl Pin.refl)⟩
theorem sm_brk : Sm X cl io (.Break pos) sBrk := ⟨fun R F env fl q σ H E D k => by
  cases q
  exact wS.of ps_break (k σ H F E Fr.refl Pin.refl)⟩
theorem sm_cnt : Sm X cl io (.Continue pos) sCnt := ⟨fun R F env fl q σ H E D k => by
  cases q
  exact wS.of ps_continue (k σ H F E Fr.refl Pin.refl)⟩
theorem sm_never : Sm X cl io st sNever := ⟨fun R F env fl q => nomatch q⟩
theorem sb_never : Sb X cl io sts sNever := ⟨fun R F env fl q => nomatch q⟩
theorem sm_doc {x j} {pos'} : Sm X cl io (.Expr (.Constant (.str x) j pos) pos') sPass := ⟨fun R F env fl q σ H E D k => by
  cases q
  exact wS.of ps_doc (k σ H F E Fr.refl Pin.refl)⟩
theorem sm_drop (h : Pk X cl e f) (hs : swapsWith e none pos.line X.env = pure false := by rfl) : Sm X cl io (.Expr e pos) (sDrop f) := ⟨fun R F env fl q σ H E D k => by
  unfold sDrop at q
  cases e1 : f env with
  | none => rw [e1] at q; cases q
  | some d =>
    rw [e1] at q
    cases q
    refine wS.of (ps_expr pe_w hs) ?_
    exact h.run _ env d e1 σ H E.ev E.vd' _ fun v H' _ s1 _ => k σ H' F (E.mono s1) (Fr.same s1 fun a ha => .inl ha) Pin.refl⟩
theorem sm_ret (h : Se X cl e f) : Sm X cl io (.Return (some e) pos) (sRet f) := ⟨fun R F env fl q σ H E D k => by
  unfold sRet at q
  cases e1 : f env with
  | none => rw [e1] at q; cases q
  | some d =>
    rw [e1] at q
    cases q
    refine wS.of (ps_ret pe_w) ?_
    refine h.run _ env d e1 σ H E.ev E.vd' _ fun v H' G s1 o1 n1 f1 => ?_
    exact k v σ H' F G (E.ep s1 n1 f1 o1.tracked) o1 (Fr.same s1 fun a ha => (List.mem_append.mp ha).elim (fun z => .inr (f1 a z)) .inl) Pin.refl⟩
theorem sm_retN : Sm X cl io (.Return none pos) sRetN := ⟨fun R F env fl q σ H E D k => by
  cases q
  refine wS.of ps_retN ?_
  exact k .non σ H F [] (E.ep (Same.refl H) List.nodup_nil (fun _ z => nomatch z) (fun _ z => nomatch z)) .non Fr.refl Pin.refl⟩
theorem sm_if {A B : List Stmt} (hc : Te X cl c h) (ha : Sb X cl io A s) (hb : Sb X cl io B t) : Sm X cl io (.If c A B pos) (sIf h s t) := ⟨fun R F env fl q σ H E D k => by
  refine wS.of (ps_if pt_w pb_w pb_w) ?_
  unfold sIf at q
  split at q
  · rename_i e1
    refine hc.run _ env true e1 σ H E.ev E.vd' _ fun H1 s1 => ?_
    rw [if_pos rfl]
    exact ha.run R F env fl q σ H1 (E.mono s1) D (k.step (Fr.same s1 fun a ha => .inl ha) Pin.refl)
  · rename_i e1
    refine hc.run _ env false e1 σ H E.ev E.vd' _ fun H1 s1 => ?_
    rw [if_neg Bool.false_ne_true]
    exact hb.run R F env fl q σ H1 (E.mono s1) D (k.step (Fr.same s1 fun a ha => .inl ha) Pin.refl)
  · cases q⟩
theorem set_self {α : Type} : ∀ {l : List α} {i : Nat} {o : α}, l[i]? = some o → l.set i o = l
  | [], _, _, h => by simp at h
  | x :: l, 0, o, h => by
    simp at h
    rw [h]
    rfl
  | x :: l, i + 1, o, h => by
    show x :: l.set i o = x :: l
    rw [set_self (by simpa using h)]
/-- a slot frozen, ahead of a statement -/
def sFz (i : Nat) (s : SS) : SS := fun env => match env[i]? with
  | some d => s (env.set i d.fz)
  | none => none
theorem ER.fz {K : PySem.W.Frag} {R F : List Addr} {H : Hp} {σ : St} {env : Env} {i : Nat} {d : D} (E : ER K cl R F σ H env) (hd : env[i]? = some d) : ∃ F', ER K cl R F' σ H (env.set i d.fz) ∧ ∀ a ∈ F', a ∈ F := by
  obtain ⟨o1, G1, F1, F2, h1, h2, h3, h4⟩ := E.sl.zoom hd
  have nd := E.nd
  rw [h2] at nd
  have nd' := nd
  rw [List.nodup_append] at nd
  obtain ⟨n1, n2, n3⟩ := nd
  rw [List.nodup_append] at n2
  obtain ⟨n4, n5, n6⟩ := n2
  have sub : ∀ a, H a ≠ none → a ∉ R ++ F → a ∉ R ++ (F1 ++ F2) := fun a _ ha z => by
    rw [h2] at ha
    simp only [List.mem_append, not_or] at ha z
    rcases z with z | z | z
    · exact ha.1 z
    · exact ha.2.1 z
    · exact ha.2.2.2 z
  have gsub : ∀ a ∈ G1, a ∉ R ++ (F1 ++ F2) := fun a ha z => by
    simp only [List.mem_append] at z
    rcases z with z | z | z
    · exact E.ap a (by rw [h2]; simp [ha]) z
    · exact n3 a z a (List.mem_append_left _ ha) rfl
    · exact n6 a ha a z rfl
  have at' : At K cl (R ++ (F1 ++ F2)) H o1 d.fz [] := by
    rcases h3 with ⟨rfl, _⟩ | ⟨v, rfl, o⟩
    · exact .inl ⟨rfl, rfl⟩
    · exact .inr ⟨v, rfl, o.fz _ sub gsub⟩
  have r := h4 (R ++ (F1 ++ F2)) H o1 d.fz [] (Keep.re (K := K) fun a ha hn => sub a hn ha) at'
  rw [set_self h1] at r
  refine ⟨F1 ++ F2, ⟨r, List.nodup_append.mpr ⟨n1, n5, fun a ha b hb => n3 a ha b (List.mem_append_right _ hb)⟩, fun a ha => E.ap a ?_, E.vd⟩, fun a ha => ?_⟩
  · rw [h2]; simp only [List.mem_append] at ha ⊢; rcases ha with z | z <;> simp [z]
  · rw [h2]; simp only [List.mem_append] at ha ⊢; rcases ha with z | z <;> simp [z]
theorem sm_fz {i : Nat} (h1 : Sm X cl io st s) : Sm X cl io st (sFz i s) := ⟨fun R F env fl q σ H E D k => by
  unfold sFz at q
  split at q
  · rename_i d hd
    obtain ⟨F', E', sub⟩ := E.fz hd
    exact h1.run R F' _ fl q σ H E' D (k.step (Fr.same (Same.refl H) fun a ha => .inl (sub a ha)) Pin.refl)
  · cases q⟩
theorem tgs_len : ∀ {ts : List TgT} {ds : List D} {env env' : Env}, tgs ts ds env = some env' → ds.length = ts.length
  | [], [], _, _, _ => rfl
  | _ :: _, [], _, _, h => nomatch h
  | [], _ :: _, _, _, h => nomatch h
  | t :: ts, d :: ds, env, env', h => by
    have q' : (t d env).bind (tgs ts ds) = some env' := h
    obtain ⟨env1, e1, e2⟩ := bind1 q'
    rw [List.length_cons, List.length_cons, tgs_len e2]
/-! ### targets -/
def wG (X : Cx) (tg : Expr) : TG := fun v σ H Q => ∀ (pins : List (Addr × Obj)) (s : Shared) (u : Value), Inv X pins σ H s → RelV v u → wpAny (model X.prog X.w) X.A (assign tg X.env u) (fun _ s' => ∃ σ' H', Inv X pins σ' H' s' ∧ Q σ' H') X.xe s
theorem pg_w {tg : Expr} : PG X tg (wG X tg) := ⟨fun pins s σ H v u Q I r h => h pins s u I r⟩
theorem wG.of {tg : Expr} {t : TG} (h : PG X tg t) {v : V} {σ : St} {H : Hp} {Q : St → Hp → Prop} (q : t v σ H Q) : wG X tg v σ H Q := fun pins s u I r => h.run pins s σ H v u Q I r q
structure Tt (X : Cx) (cl : Nat → Addr) (io : List Nat) (tg : Expr) (t : TgT) : Prop where
  run : ∀ (R G F : List Addr) (env env' : Env) (d : D), t d env = some env' → ∀ (σ : St) (H : Hp) (v : V), EP X.K cl R G F σ H env → Own X.K cl (G ++ (R ++ F)) H v d G → ∀ Q : St → Hp → Prop,
    (∀ σ' F', ER X.K cl R F' σ' H env' → (∀ a ∈ F', a ∈ F ∨ a ∈ G) → Pin io σ σ' → Q σ' H) → wG X tg v σ H Q
theorem tt_name (i : Nat) {x : Str} (nd : X.N.Nodup) (hi : X.N[i]? = some x := by rfl) (hx : Loc X.env.scope x := by first | exact Or.inl rfl | exact Or.inr rfl) (hf : X.fn x = true ∨ X.env.scope.names.lookup x = some .local := by first | exact .inl rfl | exact .inr rfl | assumption) (hio : i ∉ io := by decide) : Tt X cl io (.Name x pos) (tgN i) := ⟨fun R G F env env' d q σ H v E o Q k => by
  unfold tgN at q
  split at q
  · rename_i hl
    cases q
    refine wG.of (pg_name nd hi hx hf) ?_
    obtain ⟨F', E', sub⟩ := E.put hl o
    exact k _ F' E' sub (Pin.set hio)
  · cases q⟩
structure Tts (X : Cx) (cl : Nat → Addr) (io : List Nat) (tgs' : List Expr) (ts : List TgT) : Prop where
  run : ∀ (R G F : List Addr) (env env' : Env) (ds : List D), tgs ts ds env = some env' → ∀ (σ : St) (H : Hp) (vs : List V), EP X.K cl R G F σ H env → Owns X.K cl (G ++ (R ++ F)) H vs ds G → ∀ Q : St → Hp → Prop,
    (∀ σ' F', ER X.K cl R F' σ' H env' → (∀ a ∈ F', a ∈ F ∨ a ∈ G) → Pin io σ σ' → Q σ' H) → ∃ t, PGs X tgs' t ∧ t vs σ H Q
def wGs (X : Cx) (ts : List Expr) : TGs := fun vs σ H Q => ∀ (pins : List (Addr × Obj)) (s : Shared) (us : List Value), Inv X pins σ H s → Vals vs us → wpAny (model X.prog X.w) X.A (assignInOrder ((assignEach ts X.env).map (·.2)) us) (fun _ s' => ∃ σ' H', Inv X pins σ' H' s' ∧ Q σ' H') X.xe s
theorem pgs_w {ts : List Expr} : PGs X ts (wGs X ts) := ⟨fun pins s σ H vs us Q I r h => h pins s us I r⟩
theorem wGs.of {ts : List Expr} {t : TGs} (h : PGs X ts t) {vs : List V} {σ : St} {H : Hp} {Q : St → Hp → Prop} (q : t vs σ H Q) : wGs X ts vs σ H Q := fun pins s us I r => h.run pins s σ H vs us Q I r q
theorem tts_nil : Tts X cl io [] [] := ⟨fun R G F env env' ds q σ H vs E o Q k => by
  cases ds with
  | nil =>
    cases q
    cases o
    exact ⟨_, pgs_nil, rfl, k σ F E.er (fun a ha => .inl ha) Pin.refl⟩
  | cons _ _ => cases q⟩
theorem tts_cons {tg : Expr} {es : List Expr} {t0 : TgT} {ts : List TgT} (h1 : Tt X cl io tg t0) (h2 : Tts X cl io es ts) (hs : (assignEach (tg :: es) X.env).map (·.2) = assign tg X.env :: (assignEach es X.env).map (·.2) := by rfl) : Tts X cl io (tg :: es) (t0 :: ts) := ⟨fun R G F env env' ds q σ H vs E o Q k => by
  cases ds with
  | nil => cases q
  | cons d ds =>
    cases o with
    | cons o os =>
      rename_i v vs G1 G2
      have q' : (t0 d env).bind (tgs ts ds) = some env' := q
      obtain ⟨env1, e1, e2⟩ := bind1 q'
      refine ⟨_, pgs_cons pg_w pgs_w hs, v, vs, rfl, ?_⟩
      have gn := E.gn
      rw [List.nodup_append] at gn
      have ap2 : ∀ a ∈ G2, a ∉ R ∧ a ∉ F := fun a ha => E.gr a (List.mem_append_right _ ha)
      have ap1 : ∀ a ∈ G1, a ∉ R ∧ a ∉ F := fun a ha => E.gr a (List.mem_append_left _ ha)
      have E1 : EP X.K cl (G2 ++ R) G1 F σ H env := ⟨E.sl.keep (Keep.re (K := X.K) fun a ha _ z => ha (by simp only [List.mem_append] at z ⊢; rcases z with z | (z | z) | z <;> simp [z])), E.nd, fun a ha z => (List.mem_append.mp z).elim (fun z => (ap2 a z).2 ha) (E.ap a ha),
        fun a ha => (List.mem_append.mp ha).elim (fun z => E.gt a (List.mem_append_right _ z)) (E.vd a), gn.1, fun a ha => ⟨fun z => (List.mem_append.mp z).elim (fun z => gn.2.2 a ha a z rfl) (ap1 a ha).1, (ap1 a ha).2⟩, fun a ha => E.gt a (List.mem_append_left _ ha)⟩
      refine h1.run (G2 ++ R) G1 F env env1 d e1 σ H v E1 (o.weak fun a ha => by simp only [List.mem_append] at ha ⊢; rcases ha with z | (z | z) | z <;> simp [z]) _ fun σ1 F1 E2 sub1 pin1 => ?_
      have E3 : EP X.K cl R G2 F1 σ1 H env1 := ⟨E2.sl.keep (Keep.re (K := X.K) fun a ha _ z => ha (by simp only [List.mem_append] at z ⊢; rcases z with z | z | z <;> simp [z])), E2.nd, fun a ha z => E2.ap a ha (List.mem_append_right _ z), fun a ha => E2.vd a (List.mem_append_right _ ha), gn.2.1,
        fun a ha => ⟨(ap2 a ha).1, fun z => E2.ap a z (List.mem_append_left _ ha)⟩, fun a ha => E.gt a (List.mem_append_right _ ha)⟩
      have os' : Owns X.K cl (G2 ++ (R ++ F1)) H vs ds G2 := os.grow fun a ha => by
        simp only [List.mem_append] at ha
        rcases ha with z | z | z
        · exact .inl (by simp [z])
        · exact .inl (by simp [z])
        · rcases sub1 a z with z | z
          · exact .inl (by simp [z])
          · exact .inl (by simp [z])
      obtain ⟨t, ht, qt⟩ := h2.run R G2 F1 env1 env' ds e2 σ1 H vs E3 os' Q fun σ2 F2 E4 sub2 pin2 => k σ2 F2 E4 (fun a ha => by
        rcases sub2 a ha with z | z
        · rcases sub1 a z with z | z
          · exact .inl z
          · exact .inr (by simp [z])
        · exact .inr (by simp [z])) (pin1.trans pin2)
      exact wGs.of ht qt⟩
theorem tt_tup {es : List Expr} {k0 : Nat} {ts : List TgT} {n : Nat} (h : Tts X cl io es ts) (hc : X.calm = true := by rfl) (hn : (assignEach es X.env).length = n := by rfl) (hst : (assignEach es X.env).findIdx? (·.1) = none := by rfl) (hl : ts.length = n := by rfl) : Tt X cl io (.Tuple es k0 pos) (tgU ts) := ⟨fun R G F env env' d q σ H v E o Q k => by
  unfold tgU at q
  split at q
  · rename_i xs
    obtain ⟨p, vs, rfl, hp, hs⟩ := own_tup o
    refine wG.of (pg_tup hc pgs_w hn hst) ⟨p, vs, rfl, hp, ?_, ?_⟩
    · rw [hs.length, ← hl]
      exact tgs_len q
    · obtain ⟨t, ht, qt⟩ := h.run R G F env env' xs q σ H vs E hs Q k
      exact wGs.of ht qt
  · cases q⟩
end
end Tg

namespace Tg
open PySem PySem.Spec L2
section
variable {X : Cx} {cl : Nat → Addr} {io : List Nat} {a b c e tg : Expr} {f g h : EE} {pos : Pos} {st : Stmt} {sts : List Stmt} {s t : SS} {t0 : TgT}
theorem sm_asg (he : Se X cl e f) (ht : Tt X cl io tg t0) (hs : swapsWithSole [tg] e pos.line X.env = pure false := by rfl) (hw : swappedStores [tg] e X.env = pure none := by rfl)
    (h1 : (assignEach [tg] X.env).map (·.2) = [assign tg X.env] := by rfl) : Sm X cl io (.Assign [tg] e pos) (sAsg f t0) := ⟨fun R F env fl q σ H E D k => by
  unfold sAsg at q
  obtain ⟨d, e1, q1⟩ := bind1 q
  cases e2 : t0 d env with
  | none => rw [e2] at q1; cases q1
  | some env' =>
    rw [e2] at q1
    cases q1
    refine wS.of (ps_asg pe_w pg_w hs hw h1) ?_
    refine he.run _ env d e1 σ H E.ev E.vd' _ fun v H' G s1 o1 n1 f1 => ?_
    refine ht.run R G F env env' d e2 σ H' v (E.ep s1 n1 f1 o1.tracked) o1 _ fun σ' F' E' sub pin => ?_
    exact k σ' H' F' E' (Fr.same s1 fun a ha => (sub a ha).elim .inl fun z => .inr (f1 a z)) pin⟩
/-! ### what is walked -/
structure Ii (X : Cx) (cl : Nat → Addr) (tg iter : Expr) (f : It) : Prop where
  run : ∀ (W : List Addr) (env : Env) (ds : List D), f env = some ds → ∀ (σ : St) (H : Hp), EV X.K cl W H σ env → VD W H → ∃ wi : TI, PI X tg iter wi ∧ ∀ R : L2.It → Hp → Prop,
    (∀ (J : L2.It) (H1 : Hp) (G : Hp → Prop) (Y : Nat → Hp → V → Hp → Prop), Same H H1 → Walk J ds.length G Y → (∀ W2 H2, Keep W W2 [] H1 H2 → G H2) →
      (∀ i x H2 H3 W2 d, Keep W W2 [] H1 H2 → Y i H2 x H3 → ds[i]? = some d → Same H2 H3 ∧ Own X.K cl W2 H3 x d []) → R J H1) → wi σ H R
theorem Keep.rfl' {W : List Addr} {H : Hp} : Keep W W [] H H := ⟨fun a _ o q => q, fun a o _ q => q, fun a vs q => q, fun a o u q => q, fun a h _ => h⟩
theorem Keep.sqt {K : PySem.W.Frag} {W W' F : List Addr} {H H' : Hp} (k : Keep W W' F H H') {p : Addr} {vs : List V} (h : SqT K H p vs) : SqT K H' p vs := by
  rcases h with (h | ⟨o, h⟩) | h
  · exact .inl (.inl (k.tup _ _ h))
  · exact .inl (.inr ⟨o, k.frz _ _ _ h⟩)
  · exact .inr h
theorem wi_list {e : Expr} {f : EE} (he : Se X cl e f) : ∀ (W : List Addr) (env : Env) (o : Bool) (ds : List D), f env = some (.lst o ds) → D.shs ds = true → ∀ (σ : St) (H : Hp), EV X.K cl W H σ env → VD W H → ∀ R : L2.It → Hp → Prop,
    (∀ (J : L2.It) (H1 : Hp) (G : Hp → Prop) (Y : Nat → Hp → V → Hp → Prop), Same H H1 → Walk J ds.length G Y → (∀ W2 H2, Keep W W2 [] H1 H2 → G H2) →
      (∀ i x H2 H3 W2 d, Keep W W2 [] H1 H2 → Y i H2 x H3 → ds[i]? = some d → Same H2 H3 ∧ Own X.K cl W2 H3 x d []) → R J H1) → iList X.K (wE X e) σ H R := by
  intro W env o ds e1 hs σ H E V R k
  refine he.run W env _ e1 σ H E V _ fun v H1 F s1 o1 n1 f1 => ?_
  have nW : ∀ p vs, v = .ref p → H1 p = some (.lst vs) → p ∉ W := fun p vs e hp z => by
    cases o1 with
    | lstO h _ =>
      cases e
      exact V p z (f1 p List.mem_cons_self)
    | lstF h hn _ =>
      cases e
      exact hn (List.mem_append_right _ z)
  obtain ⟨p, vs, G, rfl, hp, hv, _⟩ := own_lst o1
  have hv' : Owns X.K cl W H1 vs ds [] := (hv.shs hs).weak fun a ha => List.mem_append_right _ ha
  refine ⟨p, rfl, ⟨vs, SqL.of hp⟩, ?_⟩
  refine k (Itl X.K p) H1 (fun H => SqL X.K H p vs) (YAt vs) s1 (by rw [← hv.length]; exact walk_list) (fun W2 H2 kp => SqL.of (kp.out _ _ (nW p vs rfl hp) hp)) fun i x H2 H3 W2 d kp y hd => ?_
  obtain ⟨rfl, hx⟩ := y
  refine ⟨Same.refl _, ?_⟩
  obtain ⟨v', G', h1, h2, h3⟩ := hv'.get hd
  rw [hx] at h1
  cases h1
  have : G' = [] := List.eq_nil_iff_forall_not_mem.mpr fun a ha => nomatch h3 a ha
  subst this
  exact h2.keep kp
theorem ii_seq {e : Expr} {f : EE} (he : Se X cl e f) (ps : ∀ x : Unit, True := fun _ => trivial) : Ii X cl tg e (iSeq f) := ⟨fun W env ds q σ H E V => by
  obtain ⟨d, e1, q1⟩ := bind1 q
  unfold items at q1
  split at q1
  · split at q1
    · rename_i hs
      cases q1
      exact ⟨_, pi_list pe_w, fun R k => wi_list he W env _ ds e1 hs σ H E V R k⟩
    · cases q1
  · split at q1
    · rename_i hs
      cases q1
      refine ⟨_, pi_tup pe_w, fun R k => ?_⟩
      refine he.run W env _ e1 σ H E V _ fun v H1 F s1 o1 n1 f1 => ?_
      obtain ⟨p, vs, rfl, hp, hv⟩ := own_tup o1
      have hv' : Owns X.K cl W H1 vs ds [] := (hv.shs hs).weak fun a ha => List.mem_append_right _ ha
      refine ⟨p, rfl, ⟨vs, hp⟩, ?_⟩
      refine k (Itt X.K p) H1 (fun H => SqT X.K H p vs) (YAt vs) s1 (by rw [← hv.length]; exact walk_tup) (fun W2 H2 kp => kp.sqt hp) fun i x H2 H3 W2 d kp y hd => ?_
      obtain ⟨rfl, hx⟩ := y
      refine ⟨Same.refl _, ?_⟩
      obtain ⟨v', G', h1, h2, h3⟩ := hv'.get hd
      rw [hx] at h1
      cases h1
      have : G' = [] := List.eq_nil_iff_forall_not_mem.mpr fun a ha => nomatch h3 a ha
      subst this
      exact h2.keep kp
    · cases q1
  · rename_i xs
    cases q1
    refine ⟨_, pi_str pe_w, fun R k => ?_⟩
    refine he.run W env _ e1 σ H E V _ fun v H1 F s1 o1 n1 f1 => ?_
    cases own_str o1
    refine ⟨_, rfl, ?_⟩
    refine k (Its ⟨xs.toArray⟩) H1 (fun _ => True) (fun i H v H' => H' = H ∧ ∃ c, (⟨xs.toArray⟩ : Str).cps[i]? = some c ∧ v = .str ⟨#[c]⟩) s1 (by rw [List.length_map]; exact walk_str) (fun W2 H2 kp => trivial) fun i x H2 H3 W2 d kp y hd => ?_
    obtain ⟨rfl, c, hc, rfl⟩ := y
    refine ⟨Same.refl _, ?_⟩
    rw [List.getElem?_map] at hd
    have hc' : xs[i]? = some c := by simpa using hc
    rw [hc'] at hd
    cases hd
    exact .str [c]
  · rename_i ns
    cases q1
    refine ⟨_, pi_list pe_w, fun R k => ?_⟩
    refine he.run W env _ e1 σ H E V _ fun v H1 F s1 o1 n1 f1 => ?_
    cases o1 with
    | scr hr hn =>
      refine ⟨_, rfl, ⟨_, .inl hr⟩, ?_⟩
      rename_i p
      refine k (Itl X.K p) H1 (fun H => SqL X.K H p (ns.map L2.V.int)) (YAt _) s1 (by rw [List.length_map]; have := walk_list (K := X.K) (a := p) (xs := ns.map L2.V.int); rw [List.length_map] at this; exact this) (fun W2 H2 kp => ?_) fun i x H2 H3 W2 d kp y hd => ?_
      · rcases hr with hr | ⟨o, hr⟩
        · exact SqL.of (kp.out _ _ (fun z => hn (List.mem_append_right _ z)) hr)
        · exact .inl (.inr ⟨o, kp.frz _ _ _ hr⟩)
      · obtain ⟨rfl, hx⟩ := y
        refine ⟨Same.refl _, ?_⟩
        rw [List.getElem?_map] at hd hx
        cases hn' : ns[i]? with
        | none => rw [hn'] at hd; cases hd
        | some n =>
          rw [hn'] at hd hx
          cases hd
          cases hx
          exact .int n
    | scrK hr =>
      refine ⟨_, rfl, ⟨_, .inr hr⟩, ?_⟩
      rename_i p
      refine k (Itl X.K p) H1 (fun H => SqL X.K H p (ns.map L2.V.int)) (YAt _) s1 (by rw [List.length_map]; have := walk_list (K := X.K) (a := p) (xs := ns.map L2.V.int); rw [List.length_map] at this; exact this) (fun W2 H2 kp => .inr hr) fun i x H2 H3 W2 d kp y hd => ?_
      obtain ⟨rfl, hx⟩ := y
      refine ⟨Same.refl _, ?_⟩
      rw [List.getElem?_map] at hd hx
      cases hn' : ns[i]? with
      | none => rw [hn'] at hd; cases hd
      | some n =>
        rw [hn'] at hd hx
        cases hd
        cases hx
        exact .int n
  · cases q1⟩
theorem range_at {n i : Nat} {u : Nat → D} {d : D} (h : ((List.range n).map u)[i]? = some d) : i < n ∧ d = u i := by
  rw [List.getElem?_map] at h
  cases e : (List.range n)[i]? with
  | none => rw [e] at h; cases h
  | some j =>
    rw [e] at h
    cases h
    obtain ⟨h1, h2⟩ := List.getElem?_eq_some_iff.mp e
    rw [List.getElem_range] at h2
    rw [List.length_range] at h1
    exact ⟨h1, by rw [h2]⟩
theorem ii_rng {p : Pos} (ha : Pk X cl a f) (hg : Gl X "range") (hm : X.mg "range" = none) (h1 : starEach [a] X.env = (false, eval a X.env) :: starEach [] X.env := by rfl) (hs : starEach [a] X.env = [(false, eval a X.env)] := by rfl) : Ii X cl tg (.Call (.Name "range" p) [a] [] pos) (iRng f) := ⟨fun W env ds q σ H E V => by
  unfold iRng at q
  split at q
  · rename_i n e1
    split at q
    · rename_i hz
      unfold small62 at hz
      rw [decide_eq_true_eq] at hz
      cases q
      refine ⟨_, pi_range1 hg hm (pa_cons pe_w pa_nil h1) hs, fun R k => ?_⟩
      refine ha.run W env _ e1 σ H E V _ fun v H1 F s1 o1 => ?_
      cases own_int o1
      refine ⟨n, rfl, hz.1, hz.2, ?_⟩
      refine k (Itr 0 n.toNat) H1 (fun _ => True) (YFn fun i => .int (0 + (i : Int))) s1 (by rw [List.length_map, List.length_range]; exact walk_range) (fun _ _ _ => trivial) fun i x H2 H3 W2 d kp y hd => ?_
      obtain ⟨rfl, rfl⟩ := y
      obtain ⟨_, rfl⟩ := range_at hd
      refine ⟨Same.refl _, ?_⟩
      show Own X.K cl W2 H3 (L2.V.int (0 + (i : Int))) (.int (i : Int)) []
      rw [Int.zero_add]
      exact .int _
    · cases q
  · cases q⟩
theorem ii_rng2 {p : Pos} (ha : Pk X cl a f) (hb : Pk X cl b g) (hg : Gl X "range") (hm : X.mg "range" = none) (h1 : starEach [a, b] X.env = (false, eval a X.env) :: starEach [b] X.env := by rfl) (h2 : starEach [b] X.env = (false, eval b X.env) :: starEach [] X.env := by rfl)
    (hs : starEach [a, b] X.env = [(false, eval a X.env), (false, eval b X.env)] := by rfl) (hs2 : starEach [b] X.env = [(false, eval b X.env)] := by rfl) : Ii X cl tg (.Call (.Name "range" p) [a, b] [] pos) (iRng2 f g) := ⟨fun W env ds q σ H E V => by
  unfold iRng2 at q
  split at q
  · rename_i m n e1 e2
    split at q
    · rename_i hz
      unfold small62 at hz
      rw [Bool.and_eq_true, decide_eq_true_eq, decide_eq_true_eq] at hz
      cases q
      refine ⟨_, pi_range2 hg hm (pa_cons pe_w (pa_cons pe_w pa_nil h2) h1) hs hs2, fun R k => ?_⟩
      refine ha.run W env _ e1 σ H E V _ fun v H1 F s1 o1 => ?_
      refine hb.run W env _ e2 σ H1 (E.mono s1) (V.mono s1) _ fun u H2 G s2 o2 => ?_
      cases own_int o1
      cases own_int o2
      refine ⟨m, n, rfl, ⟨hz.1.1, hz.1.2, hz.2.1, hz.2.2⟩, ?_⟩
      refine k (Itr m (n - m).toNat) H2 (fun _ => True) (YFn fun i => .int (m + (i : Int))) (s1.trans s2) (by rw [List.length_map, List.length_range]; exact walk_range) (fun _ _ _ => trivial) fun i x H2 H3 W2 d kp y hd => ?_
      obtain ⟨rfl, rfl⟩ := y
      obtain ⟨_, rfl⟩ := range_at hd
      exact ⟨Same.refl _, .int _⟩
    · cases q
  · cases q⟩
/-! ### for -/
theorem Fr.keepW {R F F' : List Addr} {H H' : Hp} (a : Fr F H F' H') : Keep (R ++ F) (R ++ F') [] H H' := ⟨(fun x hx => nomatch hx), fun x o n h => a.keep x o h fun z => n (List.mem_append_right _ z), a.tup, a.frz, fun x n hn z => (List.mem_append.mp z).elim (fun z => n (List.mem_append_left _ z)) fun z => (a.new x z).elim (fun z => n (List.mem_append_right _ z)) hn⟩
theorem sm_for {iter : Expr} {body : List Stmt} {i0 : It} (hi : Ii X cl tg iter i0) (ht : Tt X cl io tg t0) (hb : Sb X cl io body s) (hp : PassesOwn (model X.prog X.w) X.A X.env X.xe := by exact PassesOwn.never) (hc : X.calm = true := by rfl)
    (hs : ∀ x, foldedSetIterable iter X.env x = pure x := by intro _; rfl) : Sm X cl io (.For tg iter body [] pos) (sForI i0 t0 s) := ⟨fun R F env fl q σ H E D k => by
  unfold sForI at q
  obtain ⟨ds, e1, q1⟩ := bind1 q
  obtain ⟨wi, hw, run⟩ := hi.run (R ++ F) env ds e1 σ H E.ev E.vd'
  refine wS.of (ps_for hp hc hw pg_w pb_w hs) ?_
  refine run _ fun J H1 G Y s1 wk hG hY => ?_
  let Pv : Nat → St → Hp → Prop := fun i σ' H' => (∃ env' F', ER X.K cl R F' σ' H' env' ∧ Fr F H1 F' H' ∧ Pin io σ σ' ∧ sFor t0 s (ds.drop i) env' = some fl) ∨ (i = ds.length + 1)
  refine for_it wk (D := D) (fun i σ' H' => ∃ env' F', ER X.K cl R F' σ' H' env' ∧ Fr F H1 F' H' ∧ Pin io σ σ' ∧ sFor t0 s (ds.drop i) env' = some fl) ⟨env, F, E.mono s1, Fr.refl, Pin.refl, q1⟩ ?_ ?_ ?_
  · rintro i σ' H' _ ⟨env', F', E', fr, _, _⟩
    exact hG _ H' fr.keepW
  · rintro i x σ' H' H'' hi' ⟨env', F', E', fr, pn, q2⟩ y
    have hd : ds[i]? = some ds[i] := List.getElem?_eq_getElem hi'
    obtain ⟨s2, ox⟩ := hY i x H' H'' (R ++ F') ds[i] fr.keepW y hd
    rw [List.drop_eq_getElem_cons hi'] at q2
    have q3 : (t0 ds[i] env').bind (fun env1 => match s env1 with
      | some (.nx env') => sFor t0 s (ds.drop (i + 1)) env'
      | some (.ct env') => sFor t0 s (ds.drop (i + 1)) env'
      | some (.bk env') => some (.nx env')
      | some (.rt d env') => some (.rt d env')
      | none => none) = some fl := q2
    obtain ⟨env1, e2, q4⟩ := bind1 q3
    have E'' := E'.mono s2
    have ep : EP X.K cl R [] F' σ' H'' env' := E'.ep s2 List.nodup_nil (fun _ z => nomatch z) (fun _ z => nomatch z)
    refine ht.run R [] F' env' env1 ds[i] e2 σ' H'' x ep ox _ fun σ2 F2 E2 sub2 pin2 => ?_
    have fr2 : Fr F H1 F2 H'' := fr.trans (Fr.same s2 fun a ha => (sub2 a ha).elim .inl fun z => nomatch z)
    cases e3 : s env1 with
    | none => rw [e3] at q4; cases q4
    | some fl1 =>
      rw [e3] at q4
      refine hb.run R F2 env1 fl1 e3 σ2 H'' E2 _ ?_
      cases fl1 with
      | nx e' => exact fun σ3 H3 F3 E3 fr3 pin3 => ⟨e', F3, E3, fr2.trans fr3, (pn.trans pin2).trans pin3, q4⟩
      | ct e' => exact fun σ3 H3 F3 E3 fr3 pin3 => ⟨e', F3, E3, fr2.trans fr3, (pn.trans pin2).trans pin3, q4⟩
      | bk e' =>
        cases q4
        exact fun σ3 H3 F3 E3 fr3 pin3 => k σ3 H3 F3 E3 ((Fr.same s1 fun a ha => .inl ha).trans (fr2.trans fr3)) ((pn.trans pin2).trans pin3)
      | rt d e' =>
        cases q4
        exact fun v σ3 H3 F3 G3 E3 o3 fr3 pin3 => k v σ3 H3 F3 G3 E3 o3 ((Fr.same s1 fun a ha => .inl ha).trans (fr2.trans fr3)) ((pn.trans pin2).trans pin3)
  · rintro σ' H' ⟨env', F', E', fr, pn, q2⟩
    rw [List.drop_length] at q2
    cases q2
    exact k σ' H' F' E' ((Fr.same s1 fun a ha => .inl ha).trans fr) pn⟩
/-! ### while -/
theorem sm_while {body : List Stmt} (hc : Te X cl c h) (hb : Sb X cl io body s) (hp : PassesOwn (model X.prog X.w) X.A X.env X.xe := by exact PassesOwn.never) : Sm X cl io (.While c body [] pos) (sWh h s) := ⟨fun R F env fl q σ H E D k => by
  refine wS.of (ps_while hp pt_w pb_w) ?_
  refine ⟨fun m σ' H' => ∃ env' F', ER X.K cl R F' σ' H' env' ∧ Fr F H F' H' ∧ Pin io σ σ' ∧ sWhile h s m env' = some fl, ⟨fuel, env, F, E, Fr.refl, Pin.refl, q⟩, ?_⟩
  rintro m σ' H' ⟨env', F', E', fr, pn, q1⟩
  cases m with
  | zero => cases q1
  | succ m =>
    unfold sWhile at q1
    split at q1
    · rename_i e1
      refine hc.run _ env' false e1 σ' H' E'.ev E'.vd' _ fun H1 s1 => ?_
      cases q1
      have fr1 := fr.trans (Fr.same s1 fun a ha => .inl ha)
      exact k σ' H1 F' (E'.mono s1) fr1 pn
    · rename_i e1
      refine hc.run _ env' true e1 σ' H' E'.ev E'.vd' _ fun H1 s1 => ?_
      have fr1 := fr.trans (Fr.same s1 fun a ha => .inl ha)
      refine ⟨fun σ2 H2 => ∃ env2 F2, ER X.K cl R F2 σ2 H2 env2 ∧ Fr F H F2 H2 ∧ Pin io σ σ2 ∧ sWhile h s m env2 = some fl, fun σ2 H2 w => ⟨m, Nat.lt_succ_self m, w⟩, ?_⟩
      cases e3 : s env' with
      | none => rw [e3] at q1; cases q1
      | some fl1 =>
        rw [e3] at q1
        refine hb.run R F' env' fl1 e3 σ' H1 (E'.mono s1) _ ?_
        cases fl1 with
        | nx e' => exact fun σ3 H3 F3 E3 fr3 pin3 => ⟨e', F3, E3, fr1.trans fr3, pn.trans pin3, q1⟩
        | ct e' => exact fun σ3 H3 F3 E3 fr3 pin3 => ⟨e', F3, E3, fr1.trans fr3, pn.trans pin3, q1⟩
        | bk e' =>
          cases q1
          exact fun σ3 H3 F3 E3 fr3 pin3 => k σ3 H3 F3 E3 (fr1.trans fr3) (pn.trans pin3)
        | rt d e' =>
          cases q1
          exact fun v σ3 H3 F3 G3 E3 o3 fr3 pin3 => k v σ3 H3 F3 G3 E3 o3 (fr1.trans fr3) (pn.trans pin3)
    · cases q1⟩
end
end Tg

namespace Tg
open PySem PySem.Spec L2
/-! ### defs -/
/-- what a def does: its parameters, its slots, those that it may change for the caller, its body -/
def runFn (np ns : Nat) (io : List Nat) (body : SS) (ds : List D) : Option (D × List D) :=
  if ds.length = np then
    match body (ds ++ List.replicate (ns - np) .hole) with
    | some (.rt d e) => if io.all (fun i => decide (i < e.length)) then some (d, io.map fun i => e.getD i .hole) else none
    | some (.nx e) => if io.all (fun i => decide (i < e.length)) then some (.non, io.map fun i => e.getD i .hole) else none
    | _ => none
  else none
/-- the parameters that may change, behind the call: each at its own value -/
inductive Fins (K : PySem.W.Frag) (cl : Nat → Addr) (W : List Addr) (H : Hp) (vs : List V) : List Nat → List D → List Addr → Prop
  | nil : Fins K cl W H vs [] [] []
  | cons {i : Nat} {is : List Nat} {v : V} {d : D} {ds : List D} {F G : List Addr} : vs[i]? = some v → Own K cl W H v d F → Fins K cl W H vs is ds G → Fins K cl W H vs (i :: is) (d :: ds) (F ++ G)
/-- the promise of a def that is called so -/
def spF (K : PySem.W.Frag) (cl : Nat → Addr) (np : Nat) (io : List Nat) (sem : List D → Option (D × List D)) : Sp := fun vs H Q _ =>
  vs.length = np ∧ ∃ (R F : List Addr) (ds : List D) (r : D) (fin : List D), Owns K cl (R ++ F) H vs ds F ∧ F.Nodup ∧ (∀ a ∈ F, a ∉ R) ∧ VD R H ∧ sem ds = some (r, fin) ∧
    ∀ v H' F' G, Own K cl (G ++ (R ++ F')) H' v r G → Fins K cl (G ++ (R ++ F')) H' vs io fin F' → (G ++ F').Nodup → (∀ a ∈ G ++ F', a ∉ R) → Fr F H (G ++ F') H' → Q v H'
section
variable {P : Program} {w : World} {K : PySem.W.Frag} {mg : Str → Option Value} {base : Heap} {cl : Nat → Addr}
theorem sl_params : ∀ {W : List Addr} {H : Hp} {vs : List V} {ds : List D} {F : List Addr} (n : Nat), Owns K cl W H vs ds F → Sl K cl W H (vs.map some ++ List.replicate n Option.none) (ds ++ List.replicate n .hole) F
  | W, H, _, _, _, 0, .nil => .nil
  | W, H, _, _, _, n + 1, .nil => by
    rw [List.replicate_succ, List.replicate_succ]
    exact .skip none (sl_params n .nil)
  | W, H, _, _, _, n, .cons o os => .cons o (sl_params n os)
theorem sl_at {W : List Addr} {H : Hp} {σ : St} {env : Env} {F : List Addr} (r : Sl K cl W H σ env F) {i : Nat} {d : D} (hd : env[i]? = some d) {v : V} (hv : σ[i]? = some (some v)) : ∃ G, Own K cl W H v d G ∧ ∀ a ∈ G, a ∈ F := by
  obtain ⟨o, G, F1, F2, h1, h2, h3, _⟩ := r.zoom hd
  rw [hv] at h1
  cases h1
  rcases h3 with ⟨rfl, rfl⟩ | ⟨u, e, h3⟩
  · exact ⟨[], .hole v, fun a ha => nomatch ha⟩
  · cases e
    exact ⟨G, h3, fun a ha => by rw [h2]; simp [ha]⟩
/-- a pure def: nothing that is handed in changes -/
theorem fn_pure {x qual : Str} {st : Stmt} {f : Addr} {fd : FuncData} {N ps : List Str} {k np : Nat} {body : SS} (F : Fun K x qual st f fd) (S : FnScope N ps (defScope st)) (hnp : ps.length = np := by rfl)
    (hb : ∀ (cdv : Value) (A : Around) (outer : List PySem.Env) (s : Shared) (H : Hp) (E : XK), Room k (A.deeper (PyProof.Rows.envOfC qual (defScope st) s.heap.objs.size f cdv)) → Sb (cxOf CX0 P w K mg base N qual (defScope st) f cdv A outer s H E).nox cl [] (defBody st) body) :
    FnOk P w K mg base CX0 (k + 1) f fd ps (spF K cl np [] (runFn np N.length [] body)) := by
  refine F.ok S (fun vs H Q E h => by rw [h.1, hnp]) (fun cdv A outer s H vs Q E hr h => ?_)
  obtain ⟨hl, R, F0, ds, r, fin, ow, nd, ap, vd, hs, k0⟩ := h
  have hX := hb cdv A outer s H E hr
  refine ⟨_, pb_w, ?_⟩
  unfold runFn at hs
  have hdl : ds.length = np := by rw [← ow.length, hl]
  rw [if_pos hdl] at hs
  have e0 : L2.start N vs = vs.map some ++ List.replicate (N.length - np) Option.none := by unfold L2.start; rw [hl]
  have er : ER K cl R F0 (L2.start N vs) H (ds ++ List.replicate (N.length - np) .hole) := ⟨by rw [e0]; exact sl_params _ ow, nd, ap, vd⟩
  split at hs
  · rename_i d e e1
    rw [if_pos (by rfl)] at hs
    cases hs
    refine hX.run R F0 _ _ e1 _ H er _ fun v σ' H' F' G ep o fr pn => ?_
    refine k0 v H' [] G (o.weak fun a ha => ?_) .nil (by rw [List.append_nil]; exact ep.gn) (fun a ha => (ep.gr a (by simpa using ha)).1) (fr.mono fun a ha => .inl (by simp only [List.mem_append] at ha ⊢; rcases ha with z | z <;> first | simp [z] | cases z))
    simp only [List.mem_append] at ha ⊢
    rcases ha with z | z | z <;> first | simp [z] | cases z
  · rename_i e e1
    rw [if_pos (by rfl)] at hs
    cases hs
    refine hX.run R F0 _ _ e1 _ H er _ fun σ' H' F' er' fr pn => ?_
    exact k0 .non H' [] [] .non .nil List.nodup_nil (fun _ z => nomatch z) (fr.mono fun a ha => nomatch ha)
  · cases hs
/-! ### calls -/
variable {X : Cx}
theorem own_nodup {H : Hp} {W : List Addr} : ∀ (b : Nat), True := fun _ => trivial
/-- f(..), of things of one's own or that may be shared -/
theorem se_call {k np : Nat} {f0 : Addr} {fd : FuncData} {ps : List Str} {sem : List D → Option (D × List D)} {call : Call} {j : Nat} {x : Str} {p pos : Pos} {e : Expr} {es : List Expr} {fs : EA}
    (F : FnOk X.prog X.w X.K X.mg X.base CX0 k f0 fd ps (spF X.K cl np [] sem)) (hsem : call j = sem) (hr : Room k X.A) (hg : Gl X x) (hm : X.mg x = some (.ref f0)) (hk : PySem.W.keepIn X.K (.ref f0) = true) (hb : Binds X.K fd ps []) (ha : Sa X cl (e :: es) fs) (hnp : (e :: es).length = np := by rfl) (hfl : ∀ env ds, fs env = some ds → ds.length = np)
    (hdb : (x == ("__debug__" : Str)) = false := by decide) (he : starEach (e :: es) X.env = (false, eval e X.env) :: starEach es X.env := by rfl) (hpl : (backTo pos (starEach es X.env)).any (·.1) = false := by rfl) :
    Se X cl (.Call (.Name x p) (e :: es) [] pos) (eCall call j fs) := ⟨fun W env d q σ H E V Q kq => by
  unfold eCall at q
  obtain ⟨ds, e1, q1⟩ := bind1 q
  rw [hsem] at q1
  cases e2 : sem (D.fzs ds) with
  | none => rw [e2] at q1; cases q1
  | some rf =>
    rw [e2] at q1
    cases q1
    refine wE.of (pe_call F hr hg hm hk hb .nil pass0 pa_w hdb he hpl) ?_
    refine ha.run W env ds e1 σ H E V _ fun vs H1 G s1 o1 n1 f1 => ?_
    have o2 : Owns X.K cl (W ++ []) H1 vs (D.fzs ds) [] := by
      rw [List.append_nil]
      exact Owns.fz W o1 (fun a _ ha z => ha (List.mem_append_right _ z)) fun a ha z => V a z (f1 a ha)
    show spF X.K cl np [] sem (vs ++ []) H1 Q _
    rw [List.append_nil]
    refine ⟨by rw [o1.length, hfl env ds e1], W, [], D.fzs ds, rf.1, rf.2, o2, List.nodup_nil, (fun _ z => nomatch z), V.mono s1, e2, fun v H2 F' G' ow fi nd ap fr => ?_⟩
    have hF' : F' = [] := by
      cases h : rf.2 with
      | nil => rw [h] at fi; cases fi; rfl
      | cons _ _ => rw [h] at fi; cases fi
    subst hF'
    have s2 : Same H1 H2 := fun a o h => fr.keep a o h (by simp)
    rw [List.append_nil] at nd ow
    exact kq v H2 G' (s1.trans s2) ow nd fun a ha => Same.back s1 ((fr.new a (by simpa using ha)).elim (fun z => nomatch z) id)⟩
end
end Tg

namespace Tg
open PySem PySem.Spec L2
/-! ### paths -/
/-- one step down -/
def Nd1 (K : PySem.W.Frag) (cl : Nat → Addr) (H : Hp) (v : V) : St1 → V → Prop
  | .ix (.int i), u => ∃ a vs, v = .ref a ∧ (SqL K H a vs ∨ SqT K H a vs) ∧ atI vs i = some u
  | .fd c f, u => ∃ a dx fs, v = .ref a ∧ H a = some (.ins (cl c) dx fs) ∧ fs.lookup f = some u
  | _, _ => False
def Nd (K : PySem.W.Frag) (cl : Nat → Addr) (H : Hp) : V → List St1 → V → Prop
  | v, [], u => u = v
  | v, s :: r, u => ∃ w, Nd1 K cl H v s w ∧ Nd K cl H w r u
section
variable {K : PySem.W.Frag} {cl : Nat → Addr}
theorem Owns.zoom : ∀ {W : List Addr} {H : Hp} {vs : List V} {ds : List D} {F : List Addr} {j : Nat} {d : D}, Owns K cl W H vs ds F → ds[j]? = some d → ∃ v G F1 F2, vs[j]? = some v ∧ F = F1 ++ (G ++ F2) ∧ Own K cl W H v d G ∧
    ∀ (W' : List Addr) (H' : Hp) (v' : V) (d' : D) (G' : List Addr), Keep W W' (F1 ++ F2) H H' → Own K cl W' H' v' d' G' → Owns K cl W' H' (vs.set j v') (ds.set j d') (F1 ++ (G' ++ F2))
  | _, _, _, _, _, _, _, .nil, e => by simp at e
  | W, H, _, _, _, 0, d, .cons (v := v) (F := G) (G := F2) o os, e => by
    simp at e
    subst e
    exact ⟨v, G, [], F2, rfl, rfl, o, fun W' H' v' d' G' k o' => Owns.cons (F := G') (G := F2) o' (os.keep k)⟩
  | W, H, _, _, _, j + 1, d, .cons (F := G0) o os, e => by
    obtain ⟨v, G, F1, F2, h1, h2, h3, h4⟩ := Owns.zoom (j := j) (d := d) os (by simpa using e)
    refine ⟨v, G, G0 ++ F1, F2, by simpa using h1, by rw [h2, List.append_assoc], h3, fun W' H' v' d' G' k o' => ?_⟩
    rw [List.append_assoc]
    rw [List.append_assoc] at k
    exact .cons (o.keep k.app1) (h4 W' H' v' d' G' k.app2 o')
theorem lookF_ix {f : Str} : ∀ {fs : List (Str × V)} {ds : List (Str × D)} {d : D}, fs.map (·.1) = ds.map (·.1) → lookF f ds = some d → ∃ j : Nat, (ds.map (·.2))[j]? = some d ∧ fs.lookup f = (fs.map (·.2))[j]? ∧ ∀ n : D, putFD f n ds = (ds.map (·.1)).zip ((ds.map (·.2)).set j n)
  | _, [], _, _, h => nomatch h
  | [], _ :: _, _, h, _ => nomatch h
  | (g, v) :: fs, (g', e) :: ds, d, h, h2 => by
    have hh : g = g' ∧ fs.map (·.1) = ds.map (·.1) := by simpa using h
    obtain ⟨rfl, hr⟩ := hh
    unfold lookF at h2
    by_cases hf : f = g
    · subst hf
      rw [if_pos rfl] at h2
      cases h2
      refine ⟨0, rfl, by simp [List.lookup_cons], fun n => ?_⟩
      unfold putFD
      rw [if_pos rfl]
      simp only [List.map_cons, List.set_cons_zero, List.zip_cons_cons]
      congr 1
      clear h hr
      induction ds with
      | nil => rfl
      | cons p r ih => simp only [List.map_cons, List.zip_cons_cons]; rw [← ih]
    · rw [if_neg hf] at h2
      obtain ⟨j, h3, h4, h5⟩ := lookF_ix hr h2
      refine ⟨j + 1, by simpa using h3, ?_, fun n => ?_⟩
      · rw [List.lookup_cons]
        have : (f == g) = false := by simpa using hf
        rw [this]
        simpa using h4
      · unfold putFD
        rw [if_neg (fun z => hf z.symm), h5 n]
        simp
theorem keepOwn {W W' F : List Addr} {H H' : Hp} (k : Keep W W' F H H') {p : Addr} (h : p ∈ F) {o : HO} (e : H p = some o) : H' p = some o := k.own p h o e
mutual
theorem Own.sh' : ∀ {W : List Addr} {H : Hp} {v : V} {d : D} {F : List Addr}, Own K cl W H v d F → F = [] → d.sh = true
  | _, _, _, _, _, .non, _ => rfl
  | _, _, _, _, _, .bl b, _ => rfl
  | _, _, _, _, _, .int i, _ => rfl
  | _, _, _, _, _, .str x, _ => rfl
  | _, _, _, _, _, .tup h hs, e => Owns.sh' hs e
  | _, _, _, _, _, .lstO h hs, e => nomatch e
  | _, _, _, _, _, .lstF h hn hs, _ => rfl
  | _, _, _, _, _, .scr _ _, _ => rfl
  | _, _, _, _, _, .scrK _, _ => rfl
  | _, _, _, _, _, .dicO h _ hs, e => nomatch e
  | _, _, _, _, _, .dicF h hn _ hs, _ => rfl
  | _, _, _, _, _, .dtO h _ hs, e => nomatch e
  | _, _, _, _, _, .dtF h hn _ hs, _ => rfl
  | _, _, _, _, _, .objO h _ hs, e => nomatch e
  | _, _, _, _, _, .objF h hn _ hs, _ => rfl
  | _, _, _, _, _, .hole v, _ => rfl
theorem Owns.sh' : ∀ {W : List Addr} {H : Hp} {vs : List V} {ds : List D} {F : List Addr}, Owns K cl W H vs ds F → F = [] → D.shs ds = true
  | _, _, _, _, _, .nil, _ => rfl
  | _, _, _, _, _, .cons (d := d) (ds := ds) (F := F) (G := G) h hs, e => by
    obtain ⟨e1, e2⟩ := List.append_eq_nil_iff.mp e
    show (d.sh && D.shs ds) = true
    rw [Own.sh' h e1, Owns.sh' hs e2]
    rfl
end
theorem zip_fst {α β : Type} : ∀ {l : List α} {m : List β}, l.length = m.length → (l.zip m).map (·.1) = l
  | [], [], _ => rfl
  | a :: l, b :: m, h => by
    show a :: (l.zip m).map (·.1) = a :: l
    rw [zip_fst (by simpa using h)]
theorem zip_snd {α β : Type} : ∀ {l : List α} {m : List β}, l.length = m.length → (l.zip m).map (·.2) = m
  | [], [], _ => rfl
  | a :: l, b :: m, h => by
    show b :: (l.zip m).map (·.2) = b :: m
    rw [zip_snd (by simpa using h)]
theorem putFD_maps {f : Str} {fs : List (Str × V)} {ds : List (Str × D)} {d : D} (h : fs.map (·.1) = ds.map (·.1)) (h2 : lookF f ds = some d) : ∃ j : Nat, (ds.map (·.2))[j]? = some d ∧ fs.lookup f = (fs.map (·.2))[j]? ∧ ∀ n : D, (putFD f n ds).map (·.1) = ds.map (·.1) ∧ (putFD f n ds).map (·.2) = (ds.map (·.2)).set j n := by
  obtain ⟨j, h3, h4, h5⟩ := lookF_ix h h2
  refine ⟨j, h3, h4, fun n => ⟨?_, ?_⟩⟩
  · rw [h5 n]; exact zip_fst (by simp)
  · rw [h5 n]; exact zip_snd (by simp)
/-- down a path, and back up with another thing there -/
theorem own_path : ∀ {W : List Addr} {H : Hp} (l : List St1) {v : V} {d n : D} {F : List Addr}, Own K cl W H v d F → getP l d = some n → n.sh = false → ∃ u G F1 F2, Nd K cl H v l u ∧ F = F1 ++ (G ++ F2) ∧ Own K cl W H u n G ∧
    ∀ (W' : List Addr) (H' : Hp) (n' : D) (G' : List Addr), Keep W W' (F1 ++ F2) H H' → Own K cl W' H' u n' G' → Own K cl W' H' v (setP l n' d) (F1 ++ (G' ++ F2))
  | W, H, [], v, d, n, F, o, e, hsh => by
    have e' : some d = some n := e
    cases e'
    refine ⟨v, F, [], [], rfl, by simp, o, fun W' H' n' G' k o' => ?_⟩
    show Own K cl W' H' v n' ([] ++ (G' ++ []))
    rw [List.append_nil]
    exact o'
  | W, H, s :: r, v, d, n, F, o, e, hsh => by
    have e' : (getS s d).bind (getP r) = some n := e
    obtain ⟨d1, e1, e2⟩ := bind1 e'
    have up : ∀ n', setP (s :: r) n' d = setS s (setP r n' d1) d := fun n' => by
      show (match getS s d with
        | some e => setS s (setP r n' e) d
        | none => d) = _
      rw [e1]
    unfold getS at e1
    split at e1
    · rename_i i ob xs
      obtain ⟨j, h1, h2⟩ := atD_mem e1
      have upd' : ∀ n', setS (.ix (.int i)) n' (.lst ob xs) = .lst ob (xs.set j n') := fun n' => by
        show (match ixD xs.length i with
          | some j => D.lst ob (xs.set j n')
          | none => .lst ob xs) = _
        rw [h1]
      cases o with
      | lstO h hs =>
        rename_i a vs F0
        obtain ⟨u1, G1, A, B, g1, g2, g3, g4⟩ := hs.zoom h2
        obtain ⟨u, G, F1, F2, k1, k2, k3, k4⟩ := own_path r g3 e2 hsh
        have sv : vs.set j u1 = vs := set_self g1
        refine ⟨u, G, a :: (A ++ F1), F2 ++ B, ⟨u1, ⟨a, vs, rfl, .inl (SqL.of h), ?_⟩, k1⟩, by rw [g2, k2]; simp, k3, fun W' H' n' G' kp o' => ?_⟩
        · show (ixD vs.length i).bind _ = _
          rw [hs.length, h1]
          exact g1
        · rw [up, upd']
          have q1 := k4 W' H' n' G' ⟨fun b hb => kp.own b (by simp only [List.mem_append, List.mem_cons] at hb ⊢; rcases hb with z | z <;> simp [z]), kp.out, kp.tup, kp.frz, kp.fr⟩ o'
          have q2 := g4 W' H' u1 _ _ ⟨fun b hb => kp.own b (by simp only [List.mem_append, List.mem_cons] at hb ⊢; rcases hb with z | z <;> simp [z]), kp.out, kp.tup, kp.frz, kp.fr⟩ q1
          rw [sv] at q2
          have q3 := Own.lstO (kp.own a (by simp) _ h) q2
          have e3 : a :: (A ++ ((F1 ++ (G' ++ F2)) ++ B)) = a :: (A ++ F1) ++ (G' ++ (F2 ++ B)) := by simp
          rw [e3] at q3
          exact q3
      | lstF h hn hs =>
        rename_i a vs
        obtain ⟨u1, G1, A, B, g1, g2, g3, g4⟩ := hs.zoom h2
        have z0 : A = [] ∧ G1 = [] ∧ B = [] := by
          have := g2.symm
          simpa using this
        obtain ⟨rfl, rfl, rfl⟩ := z0
        obtain ⟨u, G, F1, F2, k1, k2, k3, k4⟩ := own_path r g3 e2 hsh
        have z1 : F1 = [] ∧ G = [] ∧ F2 = [] := by
          have := k2.symm
          simpa using this
        have z2 := k3.sh' z1.2.1
        rw [hsh] at z2
        cases z2
    · rename_i i xs
      obtain ⟨j, h1, h2⟩ := atD_mem e1
      have upd' : ∀ n', setS (.ix (.int i)) n' (.tup xs) = .tup (xs.set j n') := fun n' => by
        show (match ixD xs.length i with
          | some j => D.tup (xs.set j n')
          | none => .tup xs) = _
        rw [h1]
      cases o with
      | tup h hs =>
        rename_i a vs
        obtain ⟨u1, G1, A, B, g1, g2, g3, g4⟩ := hs.zoom h2
        obtain ⟨u, G, F1, F2, k1, k2, k3, k4⟩ := own_path r g3 e2 hsh
        have sv : vs.set j u1 = vs := set_self g1
        refine ⟨u, G, A ++ F1, F2 ++ B, ⟨u1, ⟨a, vs, rfl, .inr (SqT.of h), ?_⟩, k1⟩, by rw [g2, k2]; simp, k3, fun W' H' n' G' kp o' => ?_⟩
        · show (ixD vs.length i).bind _ = _
          rw [hs.length, h1]
          exact g1
        · rw [up, upd']
          have q1 := k4 W' H' n' G' ⟨fun b hb => kp.own b (by simp only [List.mem_append] at hb ⊢; rcases hb with z | z <;> simp [z]), kp.out, kp.tup, kp.frz, kp.fr⟩ o'
          have q2 := g4 W' H' u1 _ _ ⟨fun b hb => kp.own b (by simp only [List.mem_append] at hb ⊢; rcases hb with z | z <;> simp [z]), kp.out, kp.tup, kp.frz, kp.fr⟩ q1
          rw [sv] at q2
          have q3 := Own.tup (kp.tup _ _ h) q2
          have e3 : A ++ ((F1 ++ (G' ++ F2)) ++ B) = A ++ F1 ++ (G' ++ (F2 ++ B)) := by simp
          rw [e3] at q3
          exact q3
    · rename_i c f ob c' fs
      split at e1
      rotate_left
      · cases e1
      rename_i ec
      subst ec
      have upd' : ∀ n', setS (.fd c f) n' (.obj ob c fs) = .obj ob c (putFD f n' fs) := fun n' => by
        show (if c = c then D.obj ob c (putFD f n' fs) else .obj ob c fs) = _
        rw [if_pos rfl]
      cases o with
      | objO h en hs =>
        rename_i a dx vs F0
        obtain ⟨j, p1, p2, p3⟩ := putFD_maps en e1
        obtain ⟨u1, G1, A, B, g1, g2, g3, g4⟩ := hs.zoom p1
        obtain ⟨u, G, F1, F2, k1, k2, k3, k4⟩ := own_path r g3 e2 hsh
        have sv : (vs.map (·.2)).set j u1 = vs.map (·.2) := set_self g1
        refine ⟨u, G, a :: (A ++ F1), F2 ++ B, ⟨u1, ⟨a, dx, vs, rfl, h, by rw [p2]; exact g1⟩, k1⟩, by rw [g2, k2]; simp, k3, fun W' H' n' G' kp o' => ?_⟩
        rw [up, upd']
        have q1 := k4 W' H' n' G' ⟨fun b hb => kp.own b (by simp only [List.mem_append, List.mem_cons] at hb ⊢; rcases hb with z | z <;> simp [z]), kp.out, kp.tup, kp.frz, kp.fr⟩ o'
        have q2 := g4 W' H' u1 _ _ ⟨fun b hb => kp.own b (by simp only [List.mem_append, List.mem_cons] at hb ⊢; rcases hb with z | z <;> simp [z]), kp.out, kp.tup, kp.frz, kp.fr⟩ q1
        rw [sv] at q2
        have p5 := (p3 (setP r n' d1)).1
        have ej := (p3 (setP r n' d1)).2.symm
        rw [ej] at q2
        have q3 := Own.objO (kp.own a (by simp) _ h) (en.trans p5.symm) q2
        have e3 : a :: (A ++ ((F1 ++ (G' ++ F2)) ++ B)) = a :: (A ++ F1) ++ (G' ++ (F2 ++ B)) := by simp
        rw [e3] at q3
        exact q3
      | objF h hn en hs =>
        rename_i a dx vs
        obtain ⟨j, p1, p2, p3⟩ := putFD_maps en e1
        obtain ⟨u1, G1, A, B, g1, g2, g3, g4⟩ := hs.zoom p1
        have z0 : A = [] ∧ G1 = [] ∧ B = [] := by
          have := g2.symm
          simpa using this
        obtain ⟨rfl, rfl, rfl⟩ := z0
        obtain ⟨u, G, F1, F2, k1, k2, k3, k4⟩ := own_path r g3 e2 hsh
        have z1 : F1 = [] ∧ G = [] ∧ F2 = [] := by
          have := k2.symm
          simpa using this
        have z2 := k3.sh' z1.2.1
        rw [hsh] at z2
        cases z2
    · cases e1
end
end Tg

namespace Tg
open PySem PySem.Spec L2
section
variable {K : PySem.W.Frag} {cl : Nat → Addr} {H H' : Hp}
theorem Nd1.mono (e : Same H H') {v u : V} {s : St1} (h : Nd1 K cl H v s u) : Nd1 K cl H' v s u := by
  cases s with
  | ix d =>
    cases d <;> first | (exact False.elim h) | skip
    obtain ⟨a, vs, rfl, h1, h2⟩ := h
    exact ⟨a, vs, rfl, h1.elim (fun z => .inl (e.seq z)) (fun z => .inr (sqtSame e z)), h2⟩
  | fd c f =>
    obtain ⟨a, dx, fs, rfl, h1, h2⟩ := h
    exact ⟨a, dx, fs, rfl, e _ _ h1, h2⟩
theorem Nd.mono (e : Same H H') : ∀ {l : List St1} {v u : V}, Nd K cl H v l u → Nd K cl H' v l u
  | [], v, u, h => h
  | s :: r, v, u, ⟨w, h1, h2⟩ => ⟨w, h1.mono e, Nd.mono e h2⟩
theorem Nd.snoc : ∀ {l : List St1} {s : St1} {v u : V}, Nd K cl H v (l ++ [s]) u → ∃ w, Nd K cl H v l w ∧ Nd1 K cl H w s u
  | [], s, v, u, ⟨w, h1, h2⟩ => ⟨v, rfl, by
    have e : u = w := h2
    rw [e]; exact h1⟩
  | t :: r, s, v, u, ⟨w, h1, h2⟩ => by
    obtain ⟨w', h3, h4⟩ := Nd.snoc (l := r) h2
    exact ⟨w', ⟨w, h1, h3⟩, h4⟩
end
/-- a path as an expression -/
structure Pt (X : Cx) (cl : Nat → Addr) (e : Expr) (i : Nat) (p : EP1) : Prop where
  run : ∀ (W : List Addr) (env : Env) (l : List St1), p env = some l → ∀ (σ : St) (H : Hp), EV X.K cl W H σ env → VD W H → ∀ v u, σ[i]? = some (some v) → Nd X.K cl H v l u → ∀ Q : VK, (∀ H', Same H H' → Q u H') → wE X e σ H Q
section
variable {X : Cx} {cl : Nat → Addr} {io : List Nat} {a b c e tg : Expr} {f g h : EE} {pos : Pos} {i : Nat} {p : EP1} {t0 : TgT}
theorem pt_var (i : Nat) {x : Str} (hN : X.N[i]? = some x := by rfl) (hv : Vis X.env.scope x := by first | exact Or.inl rfl | exact Or.inr (Or.inl rfl) | exact Or.inr (Or.inr rfl)) (hd : (x == ("__debug__" : Str)) = false := by decide)
    (hcd : (x == ("__classdict__" : Str)) = false := by decide) : Pt X cl (.Name x pos) i qNil := ⟨fun W env l q σ H E V v u hσ hn Q k => by
  cases q
  have e : u = v := hn
  subst e
  exact wE.of (pe_var hN hv hd hcd) ⟨u, hσ, k H (Same.refl H)⟩⟩
theorem pt_ix (ha : Pt X cl a i p) (hb : Pk X cl b g) (hs : PlainIx b) : Pt X cl (.Subscript a b pos) i (qIx p g) := ⟨fun W env l q σ H E V v u hσ hn Q k => by
  unfold qIx at q
  obtain ⟨l0, d, e1, e2, q3⟩ := bind2 q
  cases q3
  obtain ⟨w, n1, n2⟩ := hn.snoc
  refine wE.of (pe_ix ix_seq pe_w pe_w hs) ?_
  refine ha.run W env l0 e1 σ H E V v w hσ n1 _ fun H1 s1 => ?_
  refine hb.run W env d e2 σ H1 (E.mono s1) (V.mono s1) _ fun z H2 G s2 o2 => ?_
  have n2' := n2.mono (s1.trans s2)
  cases d <;> first | (exact False.elim n2') | skip
  cases own_int o2
  obtain ⟨p', vs, rfl, h1, h2⟩ := n2'
  rcases h1 with h1 | h1
  · exact .inl ⟨p', vs, _, u, rfl, rfl, h1, h2, k H2 (s1.trans s2)⟩
  · exact .inr (.inl ⟨p', vs, _, u, rfl, rfl, h1, h2, k H2 (s1.trans s2)⟩)⟩
theorem pt_fd {cc : Nat} {fl : Str} (ha : Pt X cl a i p) (c : Cls X.K (cl cc)) (n : NoAttr X.K (cl cc) fl) (hb : attributeBase a fl X.env (eval a X.env) = eval a X.env := by rfl) : Pt X cl (.Attribute a fl pos) i (qFd p cc fl) := ⟨fun W env l q σ H E V v u hσ hn Q k => by
  unfold qFd at q
  obtain ⟨l0, e1, q3⟩ := bind1 q
  cases q3
  obtain ⟨w, n1, n2⟩ := hn.snoc
  refine wE.of (pe_fld pe_w hb) ?_
  refine ha.run W env l0 e1 σ H E V v w hσ n1 _ fun H1 s1 => ?_
  obtain ⟨p', dx, fs, rfl, h1, h2⟩ := n2.mono s1
  exact ⟨p', cl cc, dx, fs, u, rfl, h1, c, n, h2, k H1 s1⟩⟩
/-- a field looked at -/
theorem pk_fd {cc : Nat} {fl : Str} (ha : Pk X cl a f) (c : Cls X.K (cl cc)) (n : NoAttr X.K (cl cc) fl) (hb : attributeBase a fl X.env (eval a X.env) = eval a X.env := by rfl) : Pk X cl (.Attribute a fl pos) (eFd f cc fl) := ⟨fun W env d q σ H E V Q k => by
  unfold eFd at q
  obtain ⟨d0, e1, q1⟩ := bind1 q
  unfold getS at q1
  split at q1
  · rename_i h; cases h
  · rename_i h; cases h
  · rename_i c1 f1 o c2 fs h
    cases h
    split at q1
    · rename_i ec
      subst ec
      refine wE.of (pe_fld pe_w hb) ?_
      refine ha.run W env _ e1 σ H E V _ fun v H1 F s1 o1 => ?_
      cases o1 with
      | objO h en hs =>
        obtain ⟨j, p1, p2, _⟩ := putFD_maps en q1
        obtain ⟨u, G, g1, g2, _⟩ := hs.get p1
        exact ⟨_, cl _, _, _, u, rfl, h, c, n, by rw [p2]; exact g1, k u H1 G s1 g2⟩
      | objF h hn en hs =>
        obtain ⟨j, p1, p2, _⟩ := putFD_maps en q1
        obtain ⟨u, G, g1, g2, _⟩ := hs.get p1
        exact ⟨_, cl _, _, _, u, rfl, h, c, n, by rw [p2]; exact g1, k u H1 G s1 g2⟩
    · cases q1
  · cases q1⟩
/-! ### a node of one's own changed -/
/-- at a path of a slot, a thing of one's own -/
theorem ER.node {K : PySem.W.Frag} {R F : List Addr} {σ : St} {H : Hp} {env : Env} {l : List St1} {n : D} (E : ER K cl R F σ H env) (hg : getAt i l env = some n) (hs : n.sh = false) :
    ∃ v u G F1 F2, σ[i]? = some (some v) ∧ Nd K cl H v l u ∧ F = F1 ++ (G ++ F2) ∧ Own K cl (R ++ F) H u n G ∧
      ∀ (W' : List Addr) (H' : Hp) (n' : D) (G' : List Addr), Keep (R ++ F) W' (F1 ++ F2) H H' → Own K cl W' H' u n' G' → Sl K cl W' H' σ (setAt i l n' env) (F1 ++ (G' ++ F2)) := by
  unfold getAt at hg
  split at hg
  · cases hg
  · rename_i d hne hd
    obtain ⟨o1, G0, A, B, h1, h2, h3, h4⟩ := E.sl.zoom hd
    rcases h3 with ⟨z, _⟩ | ⟨v, rfl, ov⟩
    · exact absurd z hne
    · obtain ⟨u, G, F1, F2, k1, k2, k3, k4⟩ := own_path l ov hg hs
      refine ⟨v, u, G, A ++ F1, F2 ++ B, h1, k1, by rw [h2, k2]; simp, k3, fun W' H' n' G' kp o' => ?_⟩
      have q1 := k4 W' H' n' G' ⟨fun b hb => kp.own b (by simp only [List.mem_append] at hb ⊢; rcases hb with z | z <;> simp [z]), kp.out, kp.tup, kp.frz, kp.fr⟩ o'
      have q2 := h4 W' H' (some v) _ _ ⟨fun b hb => kp.own b (by simp only [List.mem_append] at hb ⊢; rcases hb with z | z <;> simp [z]), kp.out, kp.tup, kp.frz, kp.fr⟩ (.inr ⟨v, rfl, q1⟩)
      rw [set_self h1] at q2
      have e3 : A ++ ((F1 ++ (G' ++ F2)) ++ B) = A ++ F1 ++ (G' ++ (F2 ++ B)) := by simp
      rw [e3] at q2
      unfold setAt
      rw [hd]
      exact q2
  · cases hg
theorem nodup_mid {α : Type} {A B C G : List α} (h : (A ++ (B ++ C)).Nodup) (hG : G.Nodup) (hB : ∀ x ∈ G, x ∈ B ∨ (x ∉ A ∧ x ∉ C)) : (A ++ (G ++ C)).Nodup := by
  rw [List.nodup_append] at h ⊢
  obtain ⟨n1, n2, n3⟩ := h
  rw [List.nodup_append] at n2
  obtain ⟨n4, n5, n6⟩ := n2
  refine ⟨n1, List.nodup_append.mpr ⟨hG, n5, fun a ha b hb q => ?_⟩, fun a ha b hb q => ?_⟩
  · rcases hB a ha with z | z
    · exact n6 a z b hb q
    · exact z.2 (by rw [q]; exact hb)
  · rcases List.mem_append.mp hb with hb | hb
    · rcases hB b hb with z | z
      · exact n3 a ha b (List.mem_append_left _ z) q
      · exact z.1 (by rw [← q]; exact ha)
    · exact n3 a ha b (List.mem_append_right _ hb) q
/-- a list of one's own gets other items -/
theorem ER.setL {K : PySem.W.Frag} {R F : List Addr} {σ : St} {H : Hp} {env : Env} {l : List St1} {xs : List D} (E : ER K cl R F σ H env) (hg : getAt i l env = some (.lst true xs)) :
    ∃ v q vs Gx F1 F2, σ[i]? = some (some v) ∧ Nd K cl H v l (.ref q) ∧ F = F1 ++ ((q :: Gx) ++ F2) ∧ H q = some (.lst vs) ∧ Owns K cl (R ++ F) H vs xs Gx ∧
      ∀ (H2 : Hp) (vs' : List V) (xs' : List D) (Gn : List Addr), Same H H2 → Gn.Nodup → (∀ a ∈ Gn, a ∈ Gx ∨ H a = none) → Owns K cl (Gn ++ (R ++ F)) H2 vs' xs' Gn →
        ER K cl R (F1 ++ ((q :: Gn) ++ F2)) σ (upd H2 q (.lst vs')) (setAt i l (.lst true xs') env) ∧ Fr F H (F1 ++ ((q :: Gn) ++ F2)) (upd H2 q (.lst vs')) := by
  obtain ⟨v, u, G, F1, F2, h1, h2, h3, h4, h5⟩ := E.node hg rfl
  cases h4 with
  | lstO hq hs =>
    rename_i q vs Gx
    refine ⟨v, q, vs, Gx, F1, F2, h1, h2, h3, hq, hs, fun H2 vs' xs' Gn s2 nd sub o2 => ?_⟩
    have nF := E.nd
    rw [h3] at nF
    have qF : q ∈ F := by rw [h3]; simp
    have qGx : q ∉ Gx := by
      have := (List.nodup_append.mp nF).2.1
      have := (List.nodup_append.mp this).1
      exact (List.nodup_cons.mp this).1
    have qn : H q ≠ none := by rw [hq]; simp
    have qGn : q ∉ Gn := fun z => (sub q z).elim qGx fun e => qn e
    have qtup : ∀ b vs0, H2 b = some (.tup vs0) → b ≠ q := fun b vs0 e z => by rw [z, s2 q _ hq] at e; cases e
    have qfrz : ∀ b o u0, H2 b = some (.frz o u0) → b ≠ q := fun b o u0 e z => by rw [z, s2 q _ hq] at e; cases e
    have gnew : ∀ a ∈ Gn, a ∉ R ∧ a ∉ F1 ∧ a ∉ F2 := fun a ha => by
      rcases sub a ha with z | z
      · have aF : a ∈ F := by rw [h3]; simp [z]
        refine ⟨E.ap a aF, fun y => ?_, fun y => ?_⟩
        · exact (List.nodup_append.mp nF).2.2 a y a (by simp [z]) rfl
        · exact (List.nodup_append.mp (List.nodup_append.mp nF).2.1).2.2 a (by simp [z]) a y rfl
      · exact ⟨fun y => E.vd a y z, fun y => E.sl.tracked a (by rw [h3]; simp [y]) z, fun y => E.sl.tracked a (by rw [h3]; simp [y]) z⟩
    have other : ∀ b ∈ F1 ++ F2, b ≠ q := fun b hb z => by
      subst z
      rcases List.mem_append.mp hb with y | y
      · exact (List.nodup_append.mp nF).2.2 b y b (by simp) rfl
      · exact (List.nodup_append.mp (List.nodup_append.mp nF).2.1).2.2 b (by simp) b y rfl
    have kp : Keep (R ++ F) (R ++ (F1 ++ ((q :: Gn) ++ F2))) (F1 ++ F2) H (upd H2 q (.lst vs')) := by
      refine ⟨fun b hb o e => ?_, fun b o hb e => ?_, fun b vs0 e => ?_, fun b o u0 e => ?_, fun b hb hn z => ?_⟩
      · rw [upd_ne (other b hb)]; exact s2 b o e
      · rw [upd_ne (fun z => hb (by rw [z]; simp [qF]))]; exact s2 b o e
      · rw [upd_ne (qtup b vs0 (s2 _ _ e))]; exact s2 _ _ e
      · rw [upd_ne (qfrz b o u0 (s2 _ _ e))]; exact s2 _ _ e
      · rw [h3] at hb
        simp only [List.mem_append, List.mem_cons, not_or] at hb z
        rcases z with z | z | (z | z) | z
        · exact hb.1 z
        · exact hb.2.1 z
        · exact hb.2.2.1.1 z
        · exact (sub b z).elim hb.2.2.1.2 hn
        · exact hb.2.2.2 z
    have on : Owns K cl (R ++ (F1 ++ ((q :: Gn) ++ F2))) (upd H2 q (.lst vs')) vs' xs' Gn := by
      refine o2.keep ⟨fun b hb o e => ?_, fun b o hb e => ?_, fun b vs0 e => ?_, fun b o u0 e => ?_, fun b hb hn z => ?_⟩
      · rw [upd_ne (fun z => qGn (by rw [← z]; exact hb))]; exact e
      · rw [upd_ne (fun z => hb (by rw [z]; simp [qF]))]; exact e
      · rw [upd_ne (qtup b vs0 e)]; exact e
      · rw [upd_ne (qfrz b o u0 e)]; exact e
      · simp only [List.mem_append, List.mem_cons, not_or] at hb z
        rw [h3] at hb
        simp only [List.mem_append, List.mem_cons, not_or] at hb
        rcases z with z | z | (z | z) | z
        · exact hb.2.1 z
        · exact hb.2.2.1 z
        · exact hb.2.2.2.1.1 z
        · exact hb.1 z
        · exact hb.2.2.2.2 z
    refine ⟨⟨h5 _ _ _ _ kp (.lstO upd_same on), ?_, ?_, fun a ha e => ?_⟩, ⟨fun b o e hb => ?_, fun b vs0 e => ?_, fun b o u0 e => ?_, fun b e => ?_, fun b hb => ?_⟩⟩
    · refine nodup_mid nF (List.nodup_cons.mpr ⟨qGn, nd⟩) fun x hx => ?_
      rcases List.mem_cons.mp hx with z | z
      · exact .inl (by rw [z]; simp)
      · exact .inr ⟨(gnew x z).2.1, (gnew x z).2.2⟩
    · intro a ha
      simp only [List.mem_append, List.mem_cons] at ha
      rcases ha with z | (z | z) | z
      · exact E.ap a (by rw [h3]; simp [z])
      · exact E.ap a (by rw [z]; exact qF)
      · exact (gnew a z).1
      · exact E.ap a (by rw [h3]; simp [z])
    · have : a ≠ q := fun z => E.ap q qF (by rw [← z]; exact ha)
      rw [upd_ne this] at e
      exact E.vd a ha (Same.back s2 e)
    · rw [upd_ne (fun z => hb (by rw [z]; exact qF))]; exact s2 b o e
    · rw [upd_ne (qtup b vs0 (s2 _ _ e))]; exact s2 _ _ e
    · rw [upd_ne (qfrz b o u0 (s2 _ _ e))]; exact s2 _ _ e
    · by_cases z : b = q
      · rw [z, upd_same] at e; cases e
      · rw [upd_ne z] at e; exact Same.back s2 e
    · simp only [List.mem_append, List.mem_cons] at hb
      rcases hb with z | (z | z) | z
      · exact .inl (by rw [h3]; simp [z])
      · exact .inl (by rw [z]; exact qF)
      · exact (sub b z).elim (fun y => .inl (by rw [h3]; simp [y])) .inr
      · exact .inl (by rw [h3]; simp [z])
end
end Tg

namespace Tg
open PySem PySem.Spec L2
section
variable {X : Cx} {cl : Nat → Addr} {io : List Nat} {a b c e tg : Expr} {f g h : EE} {pos apos : Pos} {i : Nat} {p : EP1} {t0 : TgT}
/-- path.append(e) -/
theorem sm_app (ha : Pt X cl a i p) (he : Se X cl e f) {pos2 : Pos} (hs : swapsWith (.Call (.Attribute a "append" apos) [e] [] pos) none pos2.line X.env = pure false := by rfl)
    (hpe : ∀ {ta : TE} {t : TA}, PE X a ta → PA X [e] t → PE X (.Call (.Attribute a "append" apos) [e] [] pos) (tBM X.K "list" rAppend ta t) := by
      intro ta t h1 h2; exact pe_bm PySem.F.plainAttrs_list PySem.F.slot_list_append PySem.F.type_list_append mt_append h1 h2)
    (h1 : starEach [e] X.env = (false, eval e X.env) :: starEach [] X.env := by rfl) : Sm X cl io (.Expr (.Call (.Attribute a "append" apos) [e] [] pos) pos2) (sApp i p f) := ⟨fun R F env fl q σ H E D k => by
  unfold sApp at q
  obtain ⟨l, e1, q1⟩ := bind1 q
  split at q1
  · rename_i xs hg
    obtain ⟨y, e2, q2⟩ := bind1 q1
    split at q2
    · rename_i hz
      cases q2
      obtain ⟨v, q, vs, Gx, F1, F2, h2, h3, h4, h5, h6, h7⟩ := E.setL hg
      refine wS.of (ps_expr (hpe pe_w (pa_cons pe_w pa_nil h1)) hs) ?_
      refine ha.run _ env l e1 σ H E.ev E.vd' v _ h2 h3 _ fun H1 s1 => ?_
      refine ⟨.inl ⟨rfl, _, SqL.of (s1 _ _ h5)⟩, ?_⟩
      refine he.run _ env y e2 σ H1 (E.ev.mono s1) (E.vd'.mono s1) _ fun u H2 Gy s2 o2 n2 f2 => ?_
      have s := s1.trans s2
      refine ⟨q, vs, u, rfl, rfl, s _ _ h5, by rw [h6.length, ← line_eq]; exact hz, ?_⟩
      have gx : Gx.Nodup := by
        have := E.nd
        rw [h4] at this
        exact (List.nodup_cons.mp (List.nodup_append.mp (List.nodup_append.mp this).2.1).1).2
      have gsub : ∀ a ∈ Gx, a ∈ F := fun a ha => by rw [h4]; simp [ha]
      obtain ⟨er, fr⟩ := h7 H2 (vs ++ [u]) (xs ++ [y]) (Gx ++ (Gy ++ [])) s (by
        rw [List.append_nil, List.nodup_append]
        exact ⟨gx, n2, fun a ha b hb z => E.sl.tracked a (gsub a ha) (by rw [z]; exact Same.back s1 (f2 b hb))⟩)
        (fun a ha => by
          simp only [List.append_nil, List.mem_append] at ha
          exact ha.elim .inl fun z => .inr (Same.back s1 (f2 a z)))
        (Owns.append (h6.growS s fun a ha => by
          simp only [List.append_nil, List.mem_append] at ha ⊢
          rcases ha with (z | z) | z | z
          · exact .inl (.inr (gsub a z))
          · exact .inr (Same.back s1 (f2 a z))
          · exact .inl (.inl z)
          · exact .inl (.inr z)) (.cons (o2.weak fun a ha => by
            simp only [List.append_nil, List.mem_append] at ha ⊢
            rcases ha with (z | z) | z | z
            · exact .inr (.inr (gsub a z))
            · exact .inl z
            · exact .inr (.inl z)
            · exact .inr (.inr z)) .nil))
      exact k σ _ _ er fr Pin.refl
    · cases q2
  · cases q1⟩
/-- path[k] = e -/
theorem sm_put (he : Se X cl e f) (ha : Pt X cl a i p) (hb : Pk X cl b g) {spos : Pos} (hs : swapsWithSole [.Subscript a b pos] e spos.line X.env = pure false := by rfl) (hw : swappedStores [.Subscript a b pos] e X.env = pure none := by rfl)
    (h1 : (assignEach [.Subscript a b pos] X.env).map (·.2) = [assign (.Subscript a b pos) X.env] := by rfl)
    (hpg : ∀ {ta tb : TE}, PE X a ta → PE X b tb → PG X (.Subscript a b pos) (L2.gSub ta tb rSetL) := by intro ta tb h1 h2; exact pg_sub h1 h2 set_list) : Sm X cl io (.Assign [.Subscript a b pos] e spos) (sPut i p g f) := ⟨fun R F env fl q σ H E D k => by
  unfold sPut at q
  obtain ⟨y, e2, q0⟩ := bind1 q
  obtain ⟨l, e1, q1⟩ := bind1 q0
  split at q1
  · rename_i xs hg
    obtain ⟨d, e3, q2⟩ := bind1 q1
    split at q2
    · rename_i z
      split at q2
      · rename_i j hj
        cases q2
        obtain ⟨v, q, vs, Gx, F1, F2, h2, h3, h4, h5, h6, h7⟩ := E.setL hg
        refine wS.of (ps_asg pe_w (hpg pe_w pe_w) hs hw h1) ?_
        refine he.run _ env y e2 σ H E.ev E.vd' _ fun u H1 Gy s1 o1 n1 f1 => ?_
        refine ha.run _ env l e1 σ H1 (E.ev.mono s1) (E.vd'.mono s1) v _ h2 (h3.mono s1) _ fun H2 s2 => ?_
        refine hb.run _ env _ e3 σ H2 (E.ev.mono (s1.trans s2)) (E.vd'.mono (s1.trans s2)) _ fun w H3 G3 s3 o3 => ?_
        cases own_int o3
        have s := (s1.trans s2).trans s3
        have hlen : ixN vs.length z = some j := by rw [h6.length]; exact hj
        refine ⟨q, vs, z, j, rfl, rfl, s _ _ h5, hlen, ?_⟩
        have hjl : j < xs.length := by
          obtain ⟨_, h8, _, _⟩ := ixN_seq hlen
          rw [← h6.length]; exact h8
        obtain ⟨w0, G0, A, B, g1, g2, g3, g4⟩ := h6.zoom (List.getElem?_eq_getElem hjl)
        have gx : Gx.Nodup := by
          have := E.nd
          rw [h4] at this
          exact (List.nodup_cons.mp (List.nodup_append.mp (List.nodup_append.mp this).2.1).1).2
        have gsub : ∀ a ∈ Gx, a ∈ F := fun a ha => by rw [h4]; simp [ha]
        have ynew : ∀ a ∈ Gy, a ∉ F := fun a ha z => E.sl.tracked a z (f1 a ha)
        obtain ⟨er, fr⟩ := h7 H3 (vs.set j u) (xs.set j y) (A ++ (Gy ++ B)) s (by
          rw [g2] at gx
          exact nodup_mid gx n1 fun x hx => .inr ⟨fun z => ynew x hx (gsub x (by rw [g2]; simp [z])), fun z => ynew x hx (gsub x (by rw [g2]; simp [z]))⟩)
          (fun a ha => by
            simp only [List.mem_append] at ha
            rcases ha with z | z | z
            · exact .inl (by rw [g2]; simp [z])
            · exact .inr (f1 a z)
            · exact .inl (by rw [g2]; simp [z]))
          (g4 _ H3 u y Gy ⟨fun a ha o e => s a o e, fun a o _ e => s a o e, fun a vs0 e => s _ _ e, fun a o u0 e => s _ _ e, fun a ha hn z => by
              simp only [List.mem_append] at ha z
              rcases z with (z | z | z) | z
              · exact ha (.inr (gsub a (by rw [g2]; simp [z])))
              · exact hn (f1 a z)
              · exact ha (.inr (gsub a (by rw [g2]; simp [z])))
              · exact ha z⟩ ((o1.mono (s2.trans s3)).weak fun a ha => by
            simp only [List.mem_append] at ha ⊢
            rcases ha with (z | z | z) | z
            · exact .inr (.inr (gsub a (by rw [g2]; simp [z])))
            · exact .inl z
            · exact .inr (.inr (gsub a (by rw [g2]; simp [z])))
            · exact .inr z))
        exact k σ _ _ er fr Pin.refl
      · cases q2
    · cases q2
  · cases q1⟩
end
end Tg

namespace Tg
open PySem PySem.Spec L2
/-! ### calls: what one has oneself is lent -/
def frz (env : Env) : Env := env.map D.fz
theorem Own.nf0 {K : PySem.W.Frag} {cl : Nat → Addr} {W : List Addr} {H : Hp} : True := trivial
theorem fz_hole {d : D} (h : d.fz ≠ .hole) : d ≠ .hole := fun e => h (by rw [e]; rfl)
theorem EV.frz {K : PySem.W.Frag} {cl : Nat → Addr} {W : List Addr} {H : Hp} {σ : St} {env : Env} (e : EV K cl W H σ env) : EV K cl [] H σ (frz env) := ⟨by rw [e.len]; unfold Tg.frz; rw [List.length_map], fun i d h1 h2 => by
  unfold Tg.frz at h1
  rw [List.getElem?_map] at h1
  cases h : env[i]? with
  | none => rw [h] at h1; cases h1
  | some d0 =>
    rw [h] at h1
    cases h1
    obtain ⟨v, F, h3, h4⟩ := e.at_ i d0 h (fz_hole h2)
    exact ⟨v, [], h3, h4.fz [] (fun _ _ _ z => nomatch z) (fun _ _ z => nomatch z)⟩⟩
/-- what a called def is -/
structure CF (P : Program) (w : World) (K : PySem.W.Frag) (mg : Str → Option Value) (base : Heap) (cl : Nat → Addr) (k : Nat) (x : Str) (sem : List D → Option (D × List D)) (io : List Nat) (np : Nat) (dfl : List D) : Prop where
  ex : ∃ f0 fd ps dvs ds, FnOk P w K mg base CX0 k f0 fd ps (spF K cl np io sem) ∧ mg x = some (.ref f0) ∧ PySem.W.keepIn K (.ref f0) = true ∧ Binds K fd ps ds ∧ Vals dvs ds ∧ ∀ W H, Owns K cl W H dvs dfl []
  len : ∀ ds r, sem ds = some r → ds.length = np
/-- f(..) that changes nothing handed in: of things that may be shared; else one's own are lent, and nothing of them comes back -/
def eCallP (sem : List D → Option (D × List D)) (dfl : List D) (fs : EA) : EE := fun env => match fs env with
  | some ds => (sem (D.fzs ds ++ dfl)).map (·.1)
  | none => match fs (frz env) with
    | some ds => (sem (D.fzs ds ++ dfl)).bind fun r => if r.1.nf then some r.1 else none
    | none => none
section
variable {X : Cx} {cl : Nat → Addr} {a b c e : Expr} {f g h : EE} {pos : Pos}
theorem fins0 {K : PySem.W.Frag} {W : List Addr} {H : Hp} {vs : List V} {ds : List D} {F : List Addr} (h : Fins K cl W H vs [] ds F) : F = [] := by cases h; rfl
/-- the call itself, behind the arguments -/
theorem callP_run {k np : Nat} {x : Str} {sem : List D → Option (D × List D)} {dfl : List D} (C : CF X.prog X.w X.K X.mg X.base cl k x sem [] np dfl) {ta : TA → TE} {es : List Expr} {fs : EA} (ha : Sa X cl es fs)
    (hp : ∀ sp dvs, (∃ f0 fd ps ds, FnOk X.prog X.w X.K X.mg X.base CX0 k f0 fd ps sp ∧ X.mg x = some (.ref f0) ∧ PySem.W.keepIn X.K (.ref f0) = true ∧ Binds X.K fd ps ds ∧ Vals dvs ds) → PE X e (tCall sp dvs E0 (wA X es))) : Se X cl e (eCallP sem dfl fs) := ⟨fun W env d q σ H E V Q kq => by
  obtain ⟨f0, fd, ps, dvs, dsv, F, hm, hk, hb, hd, hdf⟩ := C.ex
  have hpe := hp _ dvs ⟨f0, fd, ps, dsv, F, hm, hk, hb, hd⟩
  refine wE.of hpe ?_
  unfold eCallP at q
  split at q
  · rename_i ds e1
    cases e2 : sem (D.fzs ds ++ dfl) with
    | none => rw [e2] at q; cases q
    | some rf =>
      rw [e2] at q
      cases q
      refine ha.run W env ds e1 σ H E V _ fun vs H1 G s1 o1 n1 f1 => ?_
      have o2 : Owns X.K cl (W ++ []) H1 (vs ++ dvs) (D.fzs ds ++ dfl) [] := by
        rw [List.append_nil]
        exact Owns.append (F := []) (G := []) (Owns.fz W o1 (fun a _ ha z => ha (List.mem_append_right _ z)) fun a ha z => V a z (f1 a ha)) (hdf W H1)
      refine ⟨by rw [o2.length, C.len _ _ e2], W, [], _, rf.1, rf.2, o2, List.nodup_nil, (fun _ z => nomatch z), V.mono s1, e2, fun v H2 F' G' ow fi nd ap fr => ?_⟩
      cases fins0 fi
      have s2 : Same H1 H2 := fun a o h => fr.keep a o h (by simp)
      rw [List.append_nil] at nd ow
      exact kq v H2 G' (s1.trans s2) ow nd fun a ha => Same.back s1 ((fr.new a (by simpa using ha)).elim (fun z => nomatch z) id)
  · split at q
    · rename_i ds e1
      obtain ⟨rf, e2, q1⟩ := bind1 q
      split at q1
      · rename_i hnf
        cases q1
        refine ha.run [] (frz env) ds e1 σ H E.frz (fun _ z => nomatch z) _ fun vs H1 G s1 o1 n1 f1 => ?_
        have o2 : Owns X.K cl ([] ++ []) H1 (vs ++ dvs) (D.fzs ds ++ dfl) [] := Owns.append (F := []) (G := []) (Owns.fz [] o1 (fun a _ ha z => nomatch z) fun a ha z => nomatch z) (hdf [] H1)
        refine ⟨by rw [o2.length, C.len _ _ e2], [], [], _, rf.1, rf.2, o2, List.nodup_nil, (fun _ z => nomatch z), (fun _ z => nomatch z), e2, fun v H2 F' G' ow fi nd ap fr => ?_⟩
        cases fins0 fi
        have s2 : Same H1 H2 := fun a o h => fr.keep a o h (by simp)
        rw [List.append_nil] at nd
        exact kq v H2 G' (s1.trans s2) (ow.nf _ hnf) nd fun a ha => Same.back s1 ((fr.new a (by simpa using ha)).elim (fun z => nomatch z) id)
      · cases q1
    · cases q⟩
theorem se_callP {k np : Nat} {x : Str} {sem : List D → Option (D × List D)} {dfl : List D} {p : Pos} {es : List Expr} {fs : EA}
    (C : CF X.prog X.w X.K X.mg X.base cl k x sem [] np dfl) (hr : Room k X.A) (hg : Gl X x) (ha : Sa X cl (e :: es) fs)
    (hdb : (x == ("__debug__" : Str)) = false := by decide) (he : starEach (e :: es) X.env = (false, eval e X.env) :: starEach es X.env := by rfl) (hpl : (backTo pos (starEach es X.env)).any (·.1) = false := by rfl) :
    Se X cl (.Call (.Name x p) (e :: es) [] pos) (eCallP sem dfl fs) := callP_run (ta := fun _ => tC .non) C ha fun sp dvs h => by
  obtain ⟨f0, fd, ps, dsv, F, hm, hk, hb, hd⟩ := h
  exact pe_call F hr hg hm hk hb hd pass0 pa_w hdb he hpl
/-! ### isinstance -/
def tyS : Ty → String
  | .int => "int" | .bool => "bool" | .tuple => "tuple" | .list => "list" | .str => "str" | .dict => "dict"
theorem own_ty {K : PySem.W.Frag} {W : List Addr} {H : Hp} {v : V} {d : D} {F : List Addr} {t : Ty} {r : Bool} (o : Own K cl W H v d F) (h : isI t d = some r) : ∃ tv, TyX K H v tv ∧ PySem.W.kitOne K tv (.type (tyS t)) = some r := by
  cases o with
  | non => cases t <;> cases h <;> exact ⟨_, .base .non, kit_ty (by decide +kernel)⟩
  | bl b => cases t <;> cases h <;> exact ⟨_, .base (.bl b), kit_ty (by decide +kernel)⟩
  | int i => cases t <;> cases h <;> exact ⟨_, .base (.int i), kit_ty (by decide +kernel)⟩
  | str x => cases t <;> cases h <;> exact ⟨_, .base (.str _), kit_ty (by decide +kernel)⟩
  | tup hq hs => cases t <;> cases h <;> exact ⟨_, .base (.tup hq), kit_ty (by decide +kernel)⟩
  | lstO hq hs => cases t <;> cases h <;> exact ⟨_, .base (.lst hq), kit_ty (by decide +kernel)⟩
  | lstF hq hn hs => cases t <;> cases h <;> exact ⟨_, .base (.lst hq), kit_ty (by decide +kernel)⟩
  | scr hq hn => cases t <;> cases h
  | scrK hq => cases t <;> cases h
  | dicO hq he hs => cases t <;> cases h <;> exact ⟨_, .base (.dK hq), kit_ty (by decide +kernel)⟩
  | dicF hq hn he hs => cases t <;> cases h <;> exact ⟨_, .base (.dK hq), kit_ty (by decide +kernel)⟩
  | dtO hq he hs => cases t <;> cases h <;> exact ⟨_, .base (.dT hq), kit_ty (by decide +kernel)⟩
  | dtF hq hn he hs => cases t <;> cases h <;> exact ⟨_, .base (.dT hq), kit_ty (by decide +kernel)⟩
  | objO hq he hs => cases t <;> cases h
  | objF hq hn he hs => cases t <;> cases h
  | hole v => cases t <;> cases h
end
end Tg

namespace Tg
open PySem PySem.Spec L2
/-! ### isinstance, sums -/
section
variable {X : Cx} {cl : Nat → Addr} {a b c e : Expr} {f g h : EE} {pos : Pos}
theorem se_isi {t : Ty} {x : Str} {p q : Pos} (ha : Pk X cl a f) (hg : Gl X "isinstance") (hm : X.mg "isinstance" = none) (hg2 : Gl X x) (hm2 : X.mg x = none) (hv2 : bootBuiltins x = some (.type (tyS t)))
    (hn2 : x ≠ "__name__" := by decide) (hd2 : (x == ("__debug__" : Str)) = false := by decide)
    (h1 : starEach [a, .Name x q] X.env = (false, eval a X.env) :: starEach [.Name x q] X.env := by rfl) (h2 : starEach [.Name x q] X.env = (false, eval (.Name x q) X.env) :: starEach [] X.env := by rfl)
    (hpl : (backTo pos (starEach [.Name x q] X.env)).any (·.1) = false := by rfl) : Se X cl (.Call (.Name "isinstance" p) [a, .Name x q] [] pos) (eInst t f) := ⟨fun W env d q σ H E V Q k => by
  unfold eInst at q
  obtain ⟨dx, e1, q1⟩ := bind1 q
  obtain ⟨r, e2, rfl⟩ := map_bl q1
  refine wE.of (pe_callB call_isi hg hm (by decide +kernel) (pa_cons pe_w (pa_cons (pe_bltn (v := .ty (tyS t)) hg2 hm2 hv2 rfl hn2 hd2) pa_nil h2) h1) (by decide) (by decide) h1 hpl) ?_
  refine ha.run W env dx e1 σ H E V _ fun v H1 F s1 o1 => ?_
  obtain ⟨tv, h3, h4⟩ := own_ty o1 e2
  exact ⟨v, .ty (tyS t), tv, .type (tyS t), r, rfl, .ty _, h3, h4, k _ H1 [] s1 (.bl r) List.nodup_nil (fun _ z => nomatch z)⟩⟩
theorem own_intsV {K : PySem.W.Frag} {W : List Addr} {H : Hp} : ∀ {vs : List V} {ns : List Int} {F : List Addr}, Owns K cl W H vs (ns.map D.int) F → vs = ns.map V.int
  | _, [], _, .nil => rfl
  | _, n :: ns, _, .cons o os => by
    cases own_int o
    rw [own_intsV os]
    rfl
theorem own_blsV {K : PySem.W.Frag} {W : List Addr} {H : Hp} : ∀ {vs : List V} {ns : List Bool} {F : List Addr}, Owns K cl W H vs (ns.map D.bl) F → vs = ns.map V.bl
  | _, [], _, .nil => rfl
  | _, n :: ns, _, .cons o os => by
    cases own_bl o
    rw [own_blsV os]
    rfl
end
/-! what sum, any, all ask -/
def intsD : List D → Option (List Int)
  | [] => some []
  | .int i :: r => (intsD r).map fun l => i :: l
  | _ => none
def blsD : List D → Option (List Bool)
  | [] => some []
  | .bl i :: r => (blsD r).map fun l => i :: l
  | _ => none
theorem intsD_eq : ∀ {ds : List D} {ns : List Int}, intsD ds = some ns → ds = ns.map .int
  | [], _, h => by cases h; rfl
  | d :: r, ns, h => by
    cases d <;> first | (cases h; done) | skip
    unfold intsD at h
    cases e : intsD r with
    | none => rw [e] at h; cases h
    | some l =>
      rw [e] at h
      cases h
      rw [intsD_eq e]
      rfl
theorem blsD_eq : ∀ {ds : List D} {ns : List Bool}, blsD ds = some ns → ds = ns.map .bl
  | [], _, h => by cases h; rfl
  | d :: r, ns, h => by
    cases d <;> first | (cases h; done) | skip
    unfold blsD at h
    cases e : blsD r with
    | none => rw [e] at h; cases h
    | some l =>
      rw [e] at h
      cases h
      rw [blsD_eq e]
      rfl
theorem intsD_map (ns : List Int) : intsD (ns.map .int) = some ns := by
  induction ns with
  | nil => rfl
  | cons n r ih => show (intsD (r.map .int)).map _ = _; rw [ih]; rfl
theorem blsD_map (ns : List Bool) : blsD (ns.map .bl) = some ns := by
  induction ns with
  | nil => rfl
  | cons n r ih => show (blsD (r.map .bl)).map _ = _; rw [ih]; rfl
def gSum : D → Option D
  | .lst _ xs => (intsD xs).map fun l => .int l.sum
  | _ => none
def gAny : D → Option D
  | .lst _ xs => (blsD xs).map fun l => .bl (l.any id)
  | _ => none
def gAll : D → Option D
  | .lst _ xs => (blsD xs).map fun l => .bl (l.all id)
  | _ => none
section
variable {X : Cx} {cl : Nat → Addr}
theorem gf_sum (hc : X.calm = true) : GF X cl (.builtin "sum") gSum := ⟨fun dx d q => by
  refine ⟨_, cr_sum hc, fun W H x Fx V o Q k => ?_⟩
  unfold gSum at q
  split at q
  · rename_i xs
    cases e : intsD xs with
    | none => rw [e] at q; cases q
    | some l =>
      rw [e] at q
      cases q
      obtain ⟨p, vs, G, rfl, hp, hs, _⟩ := own_lst o
      rw [intsD_eq e] at hs
      cases own_intsV hs
      exact ⟨p, l, rfl, SqL.of hp, k.int⟩
  · cases q⟩
theorem gf_any (hc : X.calm = true) : GF X cl (.builtin "any") gAny := ⟨fun dx d q => by
  refine ⟨_, cr_any hc, fun W H x Fx V o Q k => ?_⟩
  unfold gAny at q
  split at q
  · rename_i xs
    cases e : blsD xs with
    | none => rw [e] at q; cases q
    | some l =>
      rw [e] at q
      cases q
      obtain ⟨p, vs, G, rfl, hp, hs, _⟩ := own_lst o
      rw [blsD_eq e] at hs
      cases own_blsV hs
      exact ⟨p, l, rfl, SqL.of hp, k.bl⟩
  · cases q⟩
theorem gf_all (hc : X.calm = true) : GF X cl (.builtin "all") gAll := ⟨fun dx d q => by
  refine ⟨_, cr_all hc, fun W H x Fx V o Q k => ?_⟩
  unfold gAll at q
  split at q
  · rename_i xs
    cases e : blsD xs with
    | none => rw [e] at q; cases q
    | some l =>
      rw [e] at q
      cases q
      obtain ⟨p, vs, G, rfl, hp, hs, _⟩ := own_lst o
      rw [blsD_eq e] at hs
      cases own_blsV hs
      exact ⟨p, l, rfl, SqL.of hp, k.bl⟩
  · cases q⟩
end
/-! ### things of one's own lent within an expression -/
def eLent (f : EE) : EE := fun env => match f env with
  | some d => some d
  | none => (f (frz env)).bind fun d => if d.nf then some d else none
theorem se_lent {X : Cx} {cl : Nat → Addr} {e : Expr} {f : EE} (h : Se X cl e f) : Se X cl e (eLent f) := ⟨fun W env d q σ H E V Q k => by
  unfold eLent at q
  split at q
  · rename_i d' e1
    cases q
    exact h.run W env _ e1 σ H E V Q k
  · obtain ⟨d', e1, q1⟩ := bind1 q
    split at q1
    · rename_i hn
      cases q1
      refine h.run [] (frz env) _ e1 σ H E.frz (fun _ z => nomatch z) Q fun v H' F s o nd f => k v H' F s (o.nf _ hn) nd f
    · cases q1⟩
/-! ### comprehensions -/
structure Tc (X : Cx) (cl : Nat → Addr) (vs : List Nat) (tg : Expr) (t : TgT) : Prop where
  run : ∀ (W : List Addr) (env env' : Env) (d : D), t d env = some env' → ∀ (σ : St) (H : Hp) (v : V), EV X.K cl W H σ env → Own X.K cl W H v d [] → ∀ Q : St → Hp → Prop,
    (∀ σ', EV X.K cl W H σ' env' → wipe σ' vs = wipe σ vs → Q σ' H) → wG X tg v σ H Q
structure Tcs (X : Cx) (cl : Nat → Addr) (vs : List Nat) (tgs' : List Expr) (ts : List TgT) : Prop where
  run : ∀ (W : List Addr) (env env' : Env) (ds : List D), tgs ts ds env = some env' → ∀ (σ : St) (H : Hp) (us : List V), EV X.K cl W H σ env → Owns X.K cl W H us ds [] → ∀ Q : St → Hp → Prop,
    (∀ σ', EV X.K cl W H σ' env' → wipe σ' vs = wipe σ vs → Q σ' H) → ∃ t, PGs X tgs' t ∧ t us σ H Q
theorem wipe_set {σ : St} {i : Nat} {o : Option V} : ∀ {vs : List Nat}, i ∈ vs → wipe (σ.set i o) vs = wipe σ vs
  | [], h => nomatch h
  | v :: vs, h => by
    unfold wipe
    by_cases hv : i ∈ vs
    · rw [wipe_set hv]
    · have e : v = i := by
        rcases List.mem_cons.mp h with z | z
        · exact z.symm
        · exact absurd z hv
      subst e
      clear h
      have aux : ∀ (vs : List Nat), v ∉ vs → wipe (σ.set v o) vs = (wipe σ vs).set v o := fun vs => by
        induction vs with
        | nil => intro _; rfl
        | cons u us ih =>
          intro hu
          unfold wipe
          rw [ih fun z => hu (List.mem_cons_of_mem _ z), List.set_comm]
          exact fun z => hu (by rw [z]; exact List.mem_cons_self)
      rw [aux vs hv, List.set_set]
section
variable {X : Cx} {cl : Nat → Addr} {a b c e : Expr} {f g h : EE} {pos : Pos} {vs : List Nat}
theorem tc_name (i : Nat) {x : Str} (nd : X.N.Nodup) (hi : X.N[i]? = some x := by rfl) (hx : Loc X.env.scope x := by first | exact Or.inl rfl | exact Or.inr rfl) (hf : X.fn x = true ∨ X.env.scope.names.lookup x = some .local := by first | exact .inl rfl | exact .inr rfl | assumption) (hio : i ∈ vs := by decide) : Tc X cl vs (.Name x pos) (tgN i) := ⟨fun W env env' d q σ H v E o Q k => by
  unfold tgN at q
  split at q
  · cases q
    exact wG.of (pg_name nd hi hx hf) (k _ (E.set i o) (wipe_set hio))
  · cases q⟩
theorem tcs_nil : Tcs X cl vs [] [] := ⟨fun W env env' ds q σ H us E o Q k => by
  cases ds with
  | nil =>
    cases q
    cases o
    exact ⟨_, pgs_nil, rfl, k σ E rfl⟩
  | cons _ _ => cases q⟩
theorem app_nil2 {α : Type} {F G : List α} (h : F ++ G = []) : F = [] ∧ G = [] := List.append_eq_nil_iff.mp h
theorem owns_cons0 {K : PySem.W.Frag} {W : List Addr} {H : Hp} {us : List V} {d : D} {ds : List D} (o : Owns K cl W H us (d :: ds) []) : ∃ v r, us = v :: r ∧ Own K cl W H v d [] ∧ Owns K cl W H r ds [] := by
  generalize hF : ([] : List Addr) = F at o
  cases o with
  | cons o os =>
    obtain ⟨rfl, rfl⟩ := app_nil2 hF.symm
    exact ⟨_, _, rfl, o, os⟩
theorem tcs_cons {tg : Expr} {es : List Expr} {t0 : TgT} {ts : List TgT} (h1 : Tc X cl vs tg t0) (h2 : Tcs X cl vs es ts) (hs : (assignEach (tg :: es) X.env).map (·.2) = assign tg X.env :: (assignEach es X.env).map (·.2) := by rfl) : Tcs X cl vs (tg :: es) (t0 :: ts) := ⟨fun W env env' ds q σ H us E o Q k => by
  cases ds with
  | nil => cases q
  | cons d ds =>
    obtain ⟨v, r, rfl, o1, o2⟩ := owns_cons0 o
    have q' : (t0 d env).bind (tgs ts ds) = some env' := q
    obtain ⟨env1, e1, e2⟩ := bind1 q'
    refine ⟨_, pgs_cons pg_w pgs_w hs, v, r, rfl, ?_⟩
    refine h1.run W env env1 d e1 σ H v E o1 _ fun σ1 E1 w1 => ?_
    obtain ⟨t, ht, qt⟩ := h2.run W env1 env' ds e2 σ1 H r E1 o2 Q fun σ2 E2 w2 => k σ2 E2 (w2.trans w1)
    exact wGs.of ht qt⟩
theorem tc_tup {es : List Expr} {k0 : Nat} {ts : List TgT} {n : Nat} (h : Tcs X cl vs es ts) (hc : X.calm = true := by rfl) (hn : (assignEach es X.env).length = n := by rfl) (hst : (assignEach es X.env).findIdx? (·.1) = none := by rfl) (hl : ts.length = n := by rfl) : Tc X cl vs (.Tuple es k0 pos) (tgU ts) := ⟨fun W env env' d q σ H v E o Q k => by
  unfold tgU at q
  split at q
  · rename_i xs
    obtain ⟨p, us, rfl, hp, hs⟩ := own_tup o
    refine wG.of (pg_tup hc pgs_w hn hst) ⟨p, us, rfl, hp, ?_, ?_⟩
    · rw [hs.length, ← hl]
      exact tgs_len q
    · obtain ⟨t, ht, qt⟩ := h.run W env env' xs q σ H us E hs Q k
      exact wGs.of ht qt
  · cases q⟩
end
/-- the comprehension's own names are open at each turn's begin -/
def wipD (env : Env) : List Nat → Env
  | [] => env
  | v :: vs => (wipD env vs).set v .hole
def eCompW (vs : List Nat) (it : It) (tg : TgT) (c e : EE) : EE := fun env => (it env).bind fun xs => if xs.length < line then (compL tg c e (wipD env vs) xs).map (.lst true) else none
def cYes : EE := fun _ => some (.bl true)
theorem EV.wipe {K : PySem.W.Frag} {cl : Nat → Addr} {W : List Addr} {H : Hp} {σ : St} {env : Env} (E : EV K cl W H σ env) : ∀ vs : List Nat, EV K cl W H (wipe σ vs) (wipD env vs)
  | [] => E
  | v :: vs => by
    have ih := EV.wipe E vs
    unfold L2.wipe wipD
    refine ⟨by rw [List.length_set, List.length_set]; exact ih.len, fun i d h1 h2 => ?_⟩
    by_cases hi : v = i
    · subst hi
      have hl : v < (wipD env vs).length := by
        have := (List.getElem?_eq_some_iff.mp h1).1
        rwa [List.length_set] at this
      rw [List.getElem?_set_self hl] at h1
      cases h1
      exact absurd rfl h2
    · rw [List.getElem?_set_ne hi] at h1
      obtain ⟨u, G, h3, h4⟩ := ih.at_ i d h1 h2
      exact ⟨u, G, by rw [List.getElem?_set_ne hi]; exact h3, h4⟩
theorem compL_len {tg : TgT} {c e : EE} {env : Env} : ∀ {xs ds : List D}, compL tg c e env xs = some ds → ds.length ≤ xs.length
  | [], ds, h => by cases h; exact Nat.le_refl _
  | x :: xs, ds, h => by
    unfold compL at h
    obtain ⟨env', _, h⟩ := bind1 h
    split at h
    · obtain ⟨d, _, h⟩ := bind1 h
      cases q : compL tg c e env xs with
      | none => rw [q] at h; cases h
      | some r =>
        rw [q] at h
        cases h
        exact Nat.succ_le_succ (compL_len q)
    · exact Nat.le_succ_of_le (compL_len h)
    · cases h
/-- the tests of a comprehension -/
structure Tq (X : Cx) (cl : Nat → Addr) (ifs : List Expr) (f : EE) : Prop where
  run : ∃ tt : TT, PTs X ifs tt ∧ ∀ (W : List Addr) (env : Env) (b : Bool), f env = some (.bl b) → ∀ (σ : St) (H : Hp), EV X.K cl W H σ env → VD W H → ∀ Q : Bool → Hp → Prop, (∀ H', Same H H' → Q b H') → tt σ H Q
theorem tq_nil {X : Cx} {cl : Nat → Addr} : Tq X cl [] cYes := ⟨tYes, pts_nil, fun W env b q σ H E V Q k => by
  cases q
  exact k H (Same.refl H)⟩
theorem tq_one {X : Cx} {cl : Nat → Addr} {c : Expr} {f : EE} (h : Te X cl c f) : Tq X cl [c] f := ⟨wT X c, pts_one pt_w, fun W env b q σ H E V Q k => h.run W env b q σ H E V Q k⟩
def wQs (X : Cx) (ifs : List Expr) : TT := fun σ H Q => ∀ (pins : List (Addr × Obj)) (s : Shared), Inv X pins σ H s →
    wpAny (model X.prog X.w) X.A (forIn ifs true fun c r => if r = true then do let ok ← isTrue c X.env (eval c X.env); pure (ForInStep.yield ok) else pure (ForInStep.yield r)) (TP X pins σ Q) X.xe s
theorem pts_w {X : Cx} {ifs : List Expr} : PTs X ifs (wQs X ifs) := ⟨fun pins s σ H Q I h => h pins s I⟩
end Tg

namespace Tg
open PySem PySem.Spec L2
theorem frsh {H H1 : Hp} {L : Addr} {F W : List Addr} (hD : H1 L = none) (hF : ∀ a ∈ F, H1 a = none) : ∀ a, a ∉ W → H1 a ≠ none → a ∉ (L :: F) ++ W := fun a ha hn z => by
  rcases List.mem_append.mp z with z | z
  · rcases List.mem_cons.mp z with e | z
    · exact hn (by rw [e]; exact hD)
    · exact hn (hF a z)
  · exact ha z
/-- what stands while the list at D is made -/
structure CompI (K : PySem.W.Frag) (cl : Nat → Addr) (W : List Addr) (L : Addr) (H1 H : Hp) (acc : List V) (ds : List D) (F : List Addr) : Prop where
  same : Same H1 H
  at_ : H L = some (.lst acc)
  own : Owns K cl ((L :: F) ++ W) H acc ds F
  nd : (L :: F).Nodup
  new : ∀ a ∈ F, H1 a = none
theorem wipe_sub {σ : St} {vs : List Nat} : ∀ us : List Nat, (∀ u ∈ us, u ∈ vs) → wipe (wipe σ us) vs = wipe σ vs
  | [], _ => rfl
  | u :: us, h => by
    show wipe ((wipe σ us).set u none) vs = _
    rw [wipe_set (h u List.mem_cons_self), wipe_sub us fun a ha => h a (List.mem_cons_of_mem _ ha)]
def wGa (X : Cx) (scope : Scope) (tg : Expr) : TG := fun v σ H Q => ∀ (s : Shared) (H0 : Hp) (C : Addr) (cs : List (Str × Addr)) (fp : List Addr), wG (X.blk s H0 scope (compEnvC scope cs C X.env) fp) tg v σ H Q
def wQa (X : Cx) (scope : Scope) (ifs : List Expr) : TT := fun σ H Q => ∀ (s : Shared) (H0 : Hp) (C : Addr) (cs : List (Str × Addr)) (fp : List Addr), wQs (X.blk s H0 scope (compEnvC scope cs C X.env) fp) ifs σ H Q
def wEa (X : Cx) (scope : Scope) (elt : Expr) : TE := fun σ H Q => ∀ (s : Shared) (H0 : Hp) (C : Addr) (cs : List (Str × Addr)) (fp : List Addr), wE (X.blk s H0 scope (compEnvC scope cs C X.env) fp) elt σ H Q
/-- a comprehension, ready to be used -/
structure Lc (X : Cx) (cl : Nat → Addr) (elt tg iter : Expr) (ifs : List Expr) (scope : Scope) (vs : List Nat) (f : EE) : Prop where
  run : ∀ (W : List Addr) (env : Env) (d : D), f env = some d → ∀ (σ : St) (H : Hp), EV X.K cl W H σ env → VD W H → ∀ Q : VK,
    (∀ v H' F, Same H H' → Own X.K cl (F ++ W) H' v d F → F.Nodup → (∀ a ∈ F, H a = none) → Q v H') → ∃ wi : TI, PI X tg iter wi ∧ tLc wi (wGa X scope tg) (wQa X scope ifs) (wEa X scope elt) vs σ H Q
theorem lc_compW {X : Cx} {cl : Nat → Addr} {elt tg iter : Expr} {ifs : List Expr} {scope : Scope} {own : List (Str × Nat)} {it : It} {t : TgT} {c e : EE} (hi : Ii X cl tg iter it)
    (hg : ∀ (s : Shared) (H : Hp) (C : Addr) (cs : List (Str × Addr)) (fp : List Addr), Tc (X.blk s H scope (compEnvC scope cs C X.env) fp) cl (own.map (·.2)) tg t)
    (ht : ∀ (s : Shared) (H : Hp) (C : Addr) (cs : List (Str × Addr)) (fp : List Addr), Tq (X.blk s H scope (compEnvC scope cs C X.env) fp) cl ifs c)
    (he : ∀ (s : Shared) (H : Hp) (C : Addr) (cs : List (Str × Addr)) (fp : List Addr), Se (X.blk s H scope (compEnvC scope cs C X.env) fp) cl elt e) :
    Lc X cl elt tg iter ifs scope (own.map (·.2)) (eCompW (own.map (·.2)) it t c e) := ⟨fun W env d q σ H E V Q k => by
  unfold eCompW at q
  obtain ⟨xs, e1, q1⟩ := bind1 q
  split at q1
  rotate_left
  · cases q1
  rename_i hlen
  cases e2 : compL t c e (wipD env (own.map (·.2))) xs with
  | none => rw [e2] at q1; cases q1
  | some total =>
    rw [e2] at q1
    cases q1
    obtain ⟨wi, hw, run⟩ := hi.run W env xs e1 σ H E V
    refine ⟨wi, hw, ?_⟩
    refine run _ fun J H1 G Y s1 wk hG hY => ?_
    intro L hD
    have VD1 : VD W H1 := V.mono s1
    refine lc_it wk (g := wGa X scope tg) (tt := wQa X scope ifs) (te := wEa X scope elt) (Qd := Q (.ref L)) (fun i H' => ∃ acc ds F rest, CompI X.K cl W L H1 H' acc ds F ∧ compL t c e (wipD env (own.map (·.2))) (xs.drop i) = some rest ∧ ds ++ rest = total) ?_ ?_ ?_ ?_
    · exact ⟨[], [], [], total, ⟨same_new hD, upd_same, .nil, by simp, fun _ z => nomatch z⟩, e2, rfl⟩
    · rintro i H' _ ⟨acc, ds, F, rest, I, _, _⟩
      exact hG ((L :: F) ++ W) H' ⟨(fun _ z => nomatch z), fun a o _ h => I.same a o h, fun a vs h => I.same a _ h, fun a o u h => I.same a _ h, frsh (H := H1) hD I.new⟩
    · rintro i x H2 H3 hi' ⟨acc, ds, F, rest, I, e3, e4⟩ y
      have hd : xs[i]? = some xs[i] := List.getElem?_eq_getElem hi'
      have kp : Keep W ((L :: F) ++ W) [] H1 H2 := ⟨(fun _ z => nomatch z), fun a o _ h => I.same a o h, fun a vs h => I.same a _ h, fun a o u h => I.same a _ h, frsh (H := H1) hD I.new⟩
      obtain ⟨s3, ox⟩ := hY i x H2 H3 ((L :: F) ++ W) xs[i] kp y hd
      rw [List.drop_eq_getElem_cons hi'] at e3
      unfold compL at e3
      obtain ⟨env1, t1, e3⟩ := bind1 e3
      have E1 : EV X.K cl ((L :: F) ++ W) H3 (wipe σ (own.map (·.2))) (wipD env (own.map (·.2))) := by
        have E0 := E.mono (s1.trans (I.same.trans s3))
        refine (EV.wipe ?_ _)
        refine ⟨E.len, fun j d h1 h2 => ?_⟩
        obtain ⟨v, Fv, h3, h4⟩ := E.at_ j d h1 h2
        refine ⟨v, Fv, h3, ((h4.mono s1).keep (Keep.re (K := X.K) (frsh (H := H1) hD I.new))).mono (I.same.trans s3)⟩
      have V1 : VD ((L :: F) ++ W) H3 := fun a ha => by
        rcases List.mem_append.mp ha with z | z
        · rcases List.mem_cons.mp z with z | z
          · rw [z, s3 _ _ I.at_]; simp
          · intro n
            exact I.own.tracked a z (Same.back s3 n)
        · exact (VD1.mono (I.same.trans s3)) a z
      intro s0 H0 C cs fp
      refine (hg s0 H0 C cs fp).run ((L :: F) ++ W) _ env1 xs[i] t1 _ H3 x E1 ox _ fun σ2 E2 w2 => ⟨w2.trans (wipe_sub _ fun _ h => h), ?_⟩
      intro s0 H0 C cs fp
      obtain ⟨tt, ptt, rt⟩ := (ht s0 H0 C cs fp).run
      cases ec : c env1 with
      | none => rw [ec] at e3; cases e3
      | some db =>
        cases db <;> first | (rw [ec] at e3; cases e3; done) | skip
        rename_i b
        have toQ : ∀ {Qb : Bool → Hp → Prop}, (∀ H', Same H3 H' → Qb b H') → wQs (X.blk s0 H0 scope (compEnvC scope cs C X.env) fp) ifs σ2 H3 Qb := fun {Qb} hq pins s' I' => ptt.run pins s' σ2 H3 Qb I' (rt _ env1 b ec σ2 H3 E2 V1 Qb hq)
        refine toQ fun H4 s4 => ?_
        rw [ec] at e3
        cases b with
        | false =>
          rw [if_neg Bool.false_ne_true]
          have e3' : compL t c e (wipD env (own.map (·.2))) (xs.drop (i + 1)) = some rest := e3
          exact ⟨acc, ds, F, rest, ⟨I.same.trans (s3.trans s4), s4 _ _ (s3 _ _ I.at_), (I.own.mono s3).mono s4, I.nd, I.new⟩, e3', e4⟩
        | true =>
          rw [if_pos rfl]
          have e3' : ((e env1).bind fun d => (compL t c e (wipD env (own.map (·.2))) (xs.drop (i + 1))).map fun r => d :: r) = some rest := e3
          obtain ⟨d, ed, e5⟩ := bind1 e3'
          intro s0 H0 C cs fp
          refine (he s0 H0 C cs fp).run ((L :: F) ++ W) env1 d ed σ2 H4 (E2.mono s4) (V1.mono s4) _ fun v H5 G' s5 o5 n5 f5 => ?_
          have sD : H5 L = some (.lst acc) := s5 _ _ (s4 _ _ (s3 _ _ I.at_))
          have s15 : Same H1 H5 := I.same.trans (s3.trans (s4.trans s5))
          have gnew : ∀ a ∈ G', H1 a = none := fun a ha => Same.back I.same (Same.back s3 (Same.back s4 (f5 a ha)))
          have gF : ∀ a ∈ G', a ∉ F := fun a ha z => I.own.tracked a z (Same.back s3 (Same.back s4 (f5 a ha)))
          have gD : L ∉ G' := fun z => by have := f5 L z; rw [s4 _ _ (s3 _ _ I.at_)] at this; cases this
          have hal : acc.length ≤ xs.length := by
            have h1 := I.own.length
            have h2 := compL_len e2
            rw [← e4, List.length_append] at h2
            omega
          refine ⟨acc, sD, ?_, ?_⟩
          · show acc.length < sizeLine
            rw [← line_eq]
            omega
          cases er : compL t c e (wipD env (own.map (·.2))) (xs.drop (i + 1)) with
          | none => rw [er] at e5; cases e5
          | some r =>
            rw [er] at e5
            cases e5
            have updk : ∀ {W' F' : List Addr}, L ∉ F' → L ∈ W' → Keep W' W' F' H5 (upd H5 L (.lst (acc ++ [v]))) := fun {W' F'} h1 h2 => by
              refine ⟨fun a ha o h => ?_, fun a o ha h => ?_, fun a vs h => ?_, fun a o u h => ?_, fun a h _ => h⟩
              · rw [upd_ne (fun z => h1 (by rw [← z]; exact ha))]; exact h
              · rw [upd_ne (fun z => ha (by rw [z]; exact h2))]; exact h
              · rw [upd_ne (fun z => by rw [z, sD] at h; cases h)]; exact h
              · rw [upd_ne (fun z => by rw [z, sD] at h; cases h)]; exact h
            refine ⟨acc ++ [v], ds ++ [d], F ++ (G' ++ []), r, ⟨fun a o h => ?_, upd_same, ?_, ?_, ?_⟩, rfl, by rw [List.append_assoc]; exact e4⟩
            · have : a ≠ L := fun z => by rw [z, hD] at h; cases h
              rw [upd_ne this]
              exact s15 a o h
            · have sub1 : ∀ a ∈ (L :: (F ++ (G' ++ []))) ++ W, a ∈ (L :: F) ++ W ∨ H4 a = none := fun a ha => by
                simp only [List.append_nil, List.mem_append, List.mem_cons] at ha ⊢
                rcases ha with (z | z | z) | z
                · exact .inl (.inl (.inl z))
                · exact .inl (.inl (.inr z))
                · exact .inr (f5 a z)
                · exact .inl (.inr z)
              have o1 : Owns X.K cl ((L :: (F ++ (G' ++ []))) ++ W) H5 acc ds F := Owns.growS (I.own.mono (s3.trans s4)) s5 sub1
              have o2 : Own X.K cl ((L :: (F ++ (G' ++ []))) ++ W) H5 v d G' := o5.weak fun a ha => by
                simp only [List.append_nil, List.mem_append, List.mem_cons] at ha ⊢
                rcases ha with (z | z | z) | z
                · exact .inr (.inl (.inl z))
                · exact .inr (.inl (.inr z))
                · exact .inl z
                · exact .inr (.inr z)
              have hLF : L ∉ F := (List.nodup_cons.mp I.nd).1
              exact (Owns.append o1 (Owns.cons (G := []) o2 .nil)).keep (updk (by simp [hLF, gD]) (by simp))
            · refine List.nodup_cons.mpr ⟨by simp [(List.nodup_cons.mp I.nd).1, gD], ?_⟩
              rw [List.append_nil]
              exact List.nodup_append.mpr ⟨(List.nodup_cons.mp I.nd).2, n5, fun a ha b hb z => gF b hb (by rw [← z]; exact ha)⟩
            · intro a ha
              simp only [List.append_nil, List.mem_append] at ha
              exact ha.elim (I.new a) (gnew a)
    · rintro H' ⟨acc, ds, F, rest, I, e3, e4⟩
      rw [List.drop_length] at e3
      cases e3
      rw [List.append_nil] at e4
      subst e4
      refine k (.ref L) H' (L :: F) (s1.trans I.same) (.lstO I.at_ I.own) I.nd fun a ha => ?_
      rcases List.mem_cons.mp ha with z | z
      · rw [z]; exact Same.back s1 hD
      · exact Same.back s1 (I.new a z)⟩
theorem lc_lent {X : Cx} {cl : Nat → Addr} {elt tg iter : Expr} {ifs : List Expr} {scope : Scope} {vs : List Nat} {f : EE} (h : Lc X cl elt tg iter ifs scope vs f) : Lc X cl elt tg iter ifs scope vs (eLent f) := ⟨fun W env d q σ H E V Q k => by
  unfold eLent at q
  split at q
  · rename_i d' e1
    cases q
    exact h.run W env _ e1 σ H E V Q k
  · obtain ⟨d', e1, q1⟩ := bind1 q
    split at q1
    · rename_i hn
      cases q1
      exact h.run [] (frz env) _ e1 σ H E.frz (fun _ z => nomatch z) Q fun v H' F s o nd f => k v H' F s (o.nf _ hn) nd f
    · cases q1⟩
section
variable {X : Cx} {cl : Nat → Addr} {io : List Nat} {elt tg iter : Expr} {ifs : List Expr} {scope : Scope} {own : List (Str × Nat)} {pos spos py : Pos} {f : EE}
theorem pga {scope : Scope} {tg : Expr} (s : Shared) (H : Hp) (C : Addr) (cs : List (Str × Addr)) (fp : List Addr) : PG (X.blk s H scope (compEnvC scope cs C X.env) fp) tg (wGa X scope tg) := ⟨fun pins s' σ' H' v u Q' I r h => h s H C cs fp pins s' u I r⟩
theorem pqa (s : Shared) (H : Hp) (C : Addr) (cs : List (Str × Addr)) (fp : List Addr) : PTs (X.blk s H scope (compEnvC scope cs C X.env) fp) ifs (wQa X scope ifs) := ⟨fun pins s' σ' H' Q' I h => h s H C cs fp pins s' I⟩
theorem pea (s : Shared) (H : Hp) (C : Addr) (cs : List (Str × Addr)) (fp : List Addr) : PE (X.blk s H scope (compEnvC scope cs C X.env) fp) elt (wEa X scope elt) := ⟨fun pins s' σ' H' Q' I h => h s H C cs fp pins s' I⟩
theorem se_lc (h : Lc X cl elt tg iter ifs scope (own.map (·.2)) f) (hN : X.N.Nodup) (ok : blkC X.N X.env.scope scope own = true) (hc : X.calm = true := by rfl) (hs : ∀ x, foldedSetIterable iter X.env x = pure x := by intro _; rfl) :
    Se X cl (.ListComp elt [⟨tg, iter, ifs, 0⟩] scope pos) f := ⟨fun W env d q σ H E V Q k => by
  obtain ⟨wi, hw, ht⟩ := h.run W env d q σ H E V Q k
  exact wE.of (pe_lc hc hN hw (blkOk_by ok) pga pqa pea hs) ht⟩
end
end Tg

namespace Tg
open PySem PySem.Spec L2
/-! ### a node of one's own changed: a list, a dict, an object -/
def D.top : D → Bool
  | .lst o _ => o
  | .dic o _ _ => o
  | .obj o _ _ => o
  | _ => false
theorem D.top_sh : ∀ {n : D}, n.top = true → n.sh = false
  | .lst true _, _ => rfl
  | .dic true _ _, _ => rfl
  | .obj true _ _, _ => rfl
def HO.plain : HO → Bool
  | .tup _ => false
  | .frz _ _ => false
  | _ => true
theorem own_top {K : PySem.W.Frag} {cl : Nat → Addr} {W : List Addr} {H : Hp} {u : V} {n : D} {G : List Addr} (o : Own K cl W H u n G) (h : n.top = true) : ∃ q Gx, u = .ref q ∧ G = q :: Gx ∧ ∃ ho, H q = some ho ∧ HO.plain ho = true := by
  cases o <;> first | (cases h; done) | skip
  · exact ⟨_, _, rfl, rfl, _, by assumption, rfl⟩
  · exact ⟨_, _, rfl, rfl, _, by assumption, rfl⟩
  · exact ⟨_, _, rfl, rfl, _, by assumption, rfl⟩
  · exact ⟨_, _, rfl, rfl, _, by assumption, rfl⟩
/-- what the change of the node at q leaves -/
structure NodeU (K : PySem.W.Frag) (cl : Nat → Addr) (R F : List Addr) (σ : St) (H : Hp) (env : Env) (i : Nat) (l : List St1) (q : Addr) (Gx F1 F2 : List Addr) (H2 : Hp) (Gn Gy : List Addr) (o' : HO) : Prop where
  kids : ∀ vs ds, Owns K cl (Gn ++ (R ++ F)) H2 vs ds Gn → Owns K cl (Gy ++ (R ++ (F1 ++ ((q :: Gn) ++ F2)))) (upd H2 q o') vs ds Gn
  out : ∀ v d, Own K cl (Gy ++ (R ++ F)) H v d Gy → Own K cl (Gy ++ (R ++ (F1 ++ ((q :: Gn) ++ F2)))) (upd H2 q o') v d Gy
  done : ∀ n', Own K cl (Gy ++ (R ++ (F1 ++ ((q :: Gn) ++ F2)))) (upd H2 q o') (.ref q) n' (q :: Gn) →
    EP K cl R Gy (F1 ++ ((q :: Gn) ++ F2)) σ (upd H2 q o') (setAt i l n' env) ∧ Fr F H (Gy ++ (F1 ++ ((q :: Gn) ++ F2))) (upd H2 q o')
theorem ER.nodeU {K : PySem.W.Frag} {cl : Nat → Addr} {R F : List Addr} {σ : St} {H : Hp} {env : Env} {i : Nat} {l : List St1} {n : D} (E : ER K cl R F σ H env) (hg : getAt i l env = some n) (ht : n.top = true) :
    ∃ v q Gx F1 F2, σ[i]? = some (some v) ∧ Nd K cl H v l (.ref q) ∧ F = F1 ++ ((q :: Gx) ++ F2) ∧ Own K cl (R ++ F) H (.ref q) n (q :: Gx) ∧ (q :: Gx).Nodup ∧ (∀ a ∈ q :: Gx, a ∈ F) ∧
      ∀ (H2 : Hp) (Gn Gy : List Addr) (o' : HO), HO.plain o' = true → Same H H2 → (Gn ++ Gy).Nodup → (∀ a ∈ Gn, a ∈ Gx ∨ H a = none) → (∀ a ∈ Gy, a ∈ Gx) → NodeU K cl R F σ H env i l q Gx F1 F2 H2 Gn Gy o' := by
  obtain ⟨v, u, G, F1, F2, h1, h2, h3, h4, h5⟩ := E.node hg (D.top_sh ht)
  obtain ⟨q, Gx, rfl, rfl, ho, hq, hpl⟩ := own_top h4 ht
  have nF := E.nd
  rw [h3] at nF
  have qF : q ∈ F := by rw [h3]; simp
  have ndq : (q :: Gx).Nodup := (List.nodup_append.mp (List.nodup_append.mp nF).2.1).1
  have qGx : q ∉ Gx := (List.nodup_cons.mp ndq).1
  refine ⟨v, q, Gx, F1, F2, h1, h2, h3, h4, ndq, fun a ha => by rw [h3]; simp only [List.mem_append]; exact .inr (.inl ha), fun H2 Gn Gy o' hpo s2 nd sub1 sub2' => ?_⟩
  have qn : H q ≠ none := by rw [hq]; simp
  have sub2 : ∀ a ∈ Gy, a ∈ Gx ∨ H a = none := fun a ha => .inl (sub2' a ha)
  have qG : ∀ a, (a ∈ Gx ∨ H a = none) → a ≠ q := fun a h z => by
    subst z
    exact h.elim qGx qn
  have qGn : q ∉ Gn := fun z => qG q (sub1 q z) rfl
  have qGy : q ∉ Gy := fun z => qG q (sub2 q z) rfl
  have hq2 : H2 q = some ho := s2 _ _ hq
  have qtup : ∀ b vs0, H2 b = some (.tup vs0) → b ≠ q := fun b vs0 e z => by rw [z, hq2] at e; cases e; cases hpl
  have qfrz : ∀ b o u0, H2 b = some (.frz o u0) → b ≠ q := fun b o u0 e z => by rw [z, hq2] at e; cases e; cases hpl
  have ndc := (List.nodup_append.mp nd)
  have other : ∀ b ∈ F1 ++ F2, b ≠ q ∧ b ∉ Gx := fun b hb => by
    rcases List.mem_append.mp hb with y | y
    · exact ⟨fun z => (List.nodup_append.mp nF).2.2 b y q (by simp) z, fun z => (List.nodup_append.mp nF).2.2 b y b (by simp [z]) rfl⟩
    · exact ⟨fun z => (List.nodup_append.mp (List.nodup_append.mp nF).2.1).2.2 q (by simp) b y z.symm, fun z => (List.nodup_append.mp (List.nodup_append.mp nF).2.1).2.2 b (by simp [z]) b y rfl⟩
  have o12 : ∀ b ∈ F1 ++ F2, b ∈ F := fun b hb => by rw [h3]; simp only [List.mem_append] at hb ⊢; rcases hb with z | z <;> simp [z]
  have gxF : ∀ b ∈ Gx, b ∈ F := fun b hb => by rw [h3]; simp [hb]
  have gnew : ∀ a, (a ∈ Gx ∨ H a = none) → a ∉ R ∧ a ∉ F1 ∧ a ∉ F2 := fun a h => by
    rcases h with z | z
    · exact ⟨E.ap a (gxF a z), fun y => (other a (List.mem_append_left _ y)).2 z, fun y => (other a (List.mem_append_right _ y)).2 z⟩
    · exact ⟨fun y => E.vd a y z, fun y => E.sl.tracked a (o12 a (List.mem_append_left _ y)) z, fun y => E.sl.tracked a (o12 a (List.mem_append_right _ y)) z⟩
  -- what is avoided then, where it stood
  have av : ∀ b, b ∉ R ++ F → H b ≠ none → b ∉ Gy ++ (R ++ (F1 ++ ((q :: Gn) ++ F2))) := fun b hb hn z => by
    simp only [List.mem_append, List.mem_cons, not_or] at hb z
    rcases z with z | z | z | (z | z) | z
    · exact (sub2 b z).elim (fun y => hb.2 (gxF b y)) hn
    · exact hb.1 z
    · exact hb.2 (o12 b (List.mem_append_left _ z))
    · exact hb.2 (by rw [z]; exact qF)
    · exact (sub1 b z).elim (fun y => hb.2 (gxF b y)) hn
    · exact hb.2 (o12 b (List.mem_append_right _ z))
  have updK : ∀ {W W' F' : List Addr}, q ∉ F' → q ∈ W → (∀ b, b ∉ W → H2 b ≠ none → b ∉ W') → Keep W W' F' H2 (upd H2 q o') := fun {W W' F'} z1 z2 z3 =>
    ⟨fun b hb o e => by rw [upd_ne (fun z => z1 (by rw [← z]; exact hb))]; exact e, fun b o hb e => by rw [upd_ne (fun z => hb (by rw [z]; exact z2))]; exact e,
      fun b vs0 e => by rw [upd_ne (qtup b vs0 e)]; exact e, fun b o u0 e => by rw [upd_ne (qfrz b o u0 e)]; exact e, z3⟩
  have gyF : ∀ b ∈ Gy, b ∈ F := fun b hb => gxF b (sub2' b hb)
  have kp : Keep (R ++ F) (Gy ++ (R ++ (F1 ++ ((q :: Gn) ++ F2)))) (F1 ++ F2) H (upd H2 q o') := by
    refine ⟨fun b hb o e => ?_, fun b o hb e => ?_, fun b vs0 e => ?_, fun b o u0 e => ?_, av⟩
    · rw [upd_ne (other b hb).1]; exact s2 b o e
    · rw [upd_ne (fun z => hb (by rw [z]; simp [qF]))]; exact s2 b o e
    · rw [upd_ne (qtup b vs0 (s2 _ _ e))]; exact s2 _ _ e
    · rw [upd_ne (qfrz b o u0 (s2 _ _ e))]; exact s2 _ _ e
  refine ⟨fun vs ds o2 => ?_, fun v d o2 => ?_, fun n' on => ⟨⟨h5 _ _ _ _ kp on, ?_, ?_, fun a ha e => ?_, ndc.2.1, fun a ha => ⟨(gnew a (sub2 a ha)).1, fun z => ?_⟩, fun a ha => ?_⟩, ⟨fun b o e hb => ?_, fun b vs0 e => ?_, fun b o u0 e => ?_, fun b e => ?_, fun b hb => ?_⟩⟩⟩
  · refine o2.keep (updK qGn (by simp [qF]) fun b hb hn z => ?_)
    simp only [List.mem_append, List.mem_cons, not_or] at hb z
    rcases z with z | z | z | (z | z) | z
    · exact hb.2.2 (gyF b z)
    · exact hb.2.1 z
    · exact hb.2.2 (o12 b (List.mem_append_left _ z))
    · exact hb.2.2 (by rw [z]; exact qF)
    · exact hb.1 z
    · exact hb.2.2 (o12 b (List.mem_append_right _ z))
  · refine o2.keep ⟨fun b hb o e => ?_, fun b o hb e => ?_, fun b vs0 e => ?_, fun b o u0 e => ?_, fun b hb hn z => ?_⟩
    · rw [upd_ne (fun z => qGy (by rw [← z]; exact hb))]; exact s2 b o e
    · rw [upd_ne (fun z => hb (by rw [z]; simp [qF]))]; exact s2 b o e
    · rw [upd_ne (qtup b vs0 (s2 _ _ e))]; exact s2 _ _ e
    · rw [upd_ne (qfrz b o u0 (s2 _ _ e))]; exact s2 _ _ e
    · simp only [List.mem_append, List.mem_cons, not_or] at hb z
      rcases z with z | z | z | (z | z) | z
      · exact hb.1 z
      · exact hb.2.1 z
      · exact hb.2.2 (o12 b (List.mem_append_left _ z))
      · exact hb.2.2 (by rw [z]; exact qF)
      · exact (sub1 b z).elim (fun y => hb.2.2 (gxF b y)) hn
      · exact hb.2.2 (o12 b (List.mem_append_right _ z))
  · refine nodup_mid nF (List.nodup_cons.mpr ⟨qGn, ndc.1⟩) fun x hx => ?_
    rcases List.mem_cons.mp hx with z | z
    · exact .inl (by rw [z]; simp)
    · exact .inr ⟨(gnew x (sub1 x z)).2.1, (gnew x (sub1 x z)).2.2⟩
  · intro a ha
    simp only [List.mem_append, List.mem_cons] at ha
    rcases ha with z | (z | z) | z
    · exact E.ap a (o12 a (List.mem_append_left _ z))
    · exact E.ap a (by rw [z]; exact qF)
    · exact (gnew a (sub1 a z)).1
    · exact E.ap a (o12 a (List.mem_append_right _ z))
  · have : a ≠ q := fun z => E.ap q qF (by rw [← z]; exact ha)
    rw [upd_ne this] at e
    exact E.vd a ha (Same.back s2 e)
  · simp only [List.mem_append, List.mem_cons] at z
    rcases z with z | (z | z) | z
    · exact (gnew a (sub2 a ha)).2.1 z
    · exact qGy (by rw [← z]; exact ha)
    · exact ndc.2.2 a z a ha rfl
    · exact (gnew a (sub2 a ha)).2.2 z
  · rw [upd_ne (qG a (sub2 a ha))]
    intro e
    exact E.sl.tracked a (gyF a ha) (Same.back s2 e)
  · rw [upd_ne (fun z => hb (by rw [z]; exact qF))]; exact s2 b o e
  · rw [upd_ne (qtup b vs0 (s2 _ _ e))]; exact s2 _ _ e
  · rw [upd_ne (qfrz b o u0 (s2 _ _ e))]; exact s2 _ _ e
  · by_cases z : b = q
    · rw [z, upd_same] at e; cases e
    · rw [upd_ne z] at e; exact Same.back s2 e
  · simp only [List.mem_append, List.mem_cons] at hb
    rcases hb with z | z | (z | z) | z
    · exact .inl (gyF b z)
    · exact .inl (o12 b (List.mem_append_left _ z))
    · exact .inl (by rw [z]; exact qF)
    · exact (sub1 b z).elim (fun y => .inl (gxF b y)) .inr
    · exact .inl (o12 b (List.mem_append_right _ z))
end Tg

namespace Tg
open PySem PySem.Spec L2
/-! ### expressions that move, change -/
abbrev EM := Env → Option (D × Env)
def mE (f : EE) : EM := fun env => (f env).map fun d => (d, env)
/-- what stands at a path, handed on: shared, else moved away -/
def mMv (i : Nat) (p : EP1) : EM := fun env => (p env).bind fun l => (getAt i l env).bind fun d => if d.sh then some (d, env) else some (d, setAt i l .hole env)
/-- path.pop() -/
def mPop (i : Nat) (p : EP1) : EM := fun env => (p env).bind fun l => match getAt i l env with
  | some (.lst true xs) => xs.getLast?.map fun y => (y, setAt i l (.lst true xs.dropLast) env)
  | _ => none
/-- path.pop(k) -/
def mPopAt (i : Nat) (p : EP1) (k : EE) : EM := fun env => (p env).bind fun l => match getAt i l env with
  | some (.lst true xs) => (k env).bind fun d => match d with
    | .int z => (ixD xs.length z).bind fun j => if -(2 ^ 63) ≤ z ∧ z < 2 ^ 63 then xs[j]?.map fun y => (y, setAt i l (.lst true (xs.eraseIdx j)) env) else none
    | _ => none
  | _ => none
def sRetM (f : EM) : SS := fun env => (f env).map fun x => .rt x.1 x.2
def sAsgM (f : EM) (t : TgT) : SS := fun env => (f env).bind fun x => (t x.1 x.2).map .nx
def sDropM (f : EM) : SS := fun env => (f env).map fun x => .nx x.2
structure Sv (X : Cx) (cl : Nat → Addr) (e : Expr) (f : EM) : Prop where
  run : ∀ (R F : List Addr) (env env' : Env) (d : D), f env = some (d, env') → ∀ (σ : St) (H : Hp), ER X.K cl R F σ H env → ∀ Q : VK,
    (∀ v H' F' G, EP X.K cl R G F' σ H' env' → Own X.K cl (G ++ (R ++ F')) H' v d G → Fr F H (G ++ F') H' → Q v H') → wE X e σ H Q
section
variable {X : Cx} {cl : Nat → Addr} {io : List Nat} {a b c e tg : Expr} {f g h : EE} {pos apos : Pos} {i : Nat} {p : EP1} {t0 : TgT} {m : EM}
theorem sv_se (h : Se X cl e f) : Sv X cl e (mE f) := ⟨fun R F env env' d q σ H E Q k => by
  unfold mE at q
  cases e1 : f env with
  | none => rw [e1] at q; cases q
  | some d' =>
    rw [e1] at q
    cases q
    exact h.run _ env d e1 σ H E.ev E.vd' Q fun v H' G s1 o1 n1 f1 => k v H' F G (E.ep s1 n1 f1 o1.tracked) o1 (Fr.same s1 fun a ha => (List.mem_append.mp ha).elim (fun z => .inr (f1 a z)) .inl)⟩
theorem getAt_some {i : Nat} {l : List St1} {env : Env} {d : D} (h : getAt i l env = some d) : ∃ d0, env[i]? = some d0 ∧ d0 ≠ .hole ∧ getP l d0 = some d := by
  unfold getAt at h
  split at h
  · cases h
  · rename_i d0 hne hd
    exact ⟨d0, hd, fun z => hne z, h⟩
  · cases h
/-- down a path, looked at -/
theorem own_down {K : PySem.W.Frag} : ∀ {W : List Addr} {H : Hp} (l : List St1) {v : V} {d n : D} {F : List Addr}, Own K cl W H v d F → getP l d = some n → ∃ u G, Nd K cl H v l u ∧ Own K cl W H u n G ∧ ∀ a ∈ G, a ∈ F
  | W, H, [], v, d, n, F, o, e => by
    have e' : some d = some n := e
    cases e'
    exact ⟨v, F, rfl, o, fun a ha => ha⟩
  | W, H, s :: r, v, d, n, F, o, e => by
    have e' : (getS s d).bind (getP r) = some n := e
    obtain ⟨d1, e1, e2⟩ := bind1 e'
    unfold getS at e1
    split at e1
    · rename_i i ob xs
      obtain ⟨a, vs, G, rfl, h1, h2, h3⟩ := own_lst o
      obtain ⟨w, G1, g1, g2, g3⟩ := owns_at h2 e1
      obtain ⟨u, G2, k1, k2, k3⟩ := own_down r g2 e2
      exact ⟨u, G2, ⟨w, ⟨a, vs, rfl, .inl (SqL.of h1), g1⟩, k1⟩, k2, fun b hb => h3 b (g3 b (k3 b hb))⟩
    · rename_i i xs
      obtain ⟨a, vs, rfl, h1, h2⟩ := own_tup o
      obtain ⟨w, G1, g1, g2, g3⟩ := owns_at h2 e1
      obtain ⟨u, G2, k1, k2, k3⟩ := own_down r g2 e2
      exact ⟨u, G2, ⟨w, ⟨a, vs, rfl, .inr h1, g1⟩, k1⟩, k2, fun b hb => g3 b (k3 b hb)⟩
    · rename_i cc ff ob c' fs
      split at e1
      rotate_left
      · cases e1
      rename_i ec
      subst ec
      cases o with
      | objO h en hs =>
        obtain ⟨j, p1, p2, _⟩ := putFD_maps en e1
        obtain ⟨w, G1, g1, g2, g3⟩ := hs.get p1
        obtain ⟨u, G2, k1, k2, k3⟩ := own_down r g2 e2
        exact ⟨u, G2, ⟨w, ⟨_, _, _, rfl, h, by rw [p2]; exact g1⟩, k1⟩, k2, fun b hb => List.mem_cons_of_mem _ (g3 b (k3 b hb))⟩
      | objF h hn en hs =>
        obtain ⟨j, p1, p2, _⟩ := putFD_maps en e1
        obtain ⟨w, G1, g1, g2, g3⟩ := hs.get p1
        obtain ⟨u, G2, k1, k2, k3⟩ := own_down r g2 e2
        exact ⟨u, G2, ⟨w, ⟨_, _, _, rfl, h, by rw [p2]; exact g1⟩, k1⟩, k2, fun b hb => g3 b (k3 b hb)⟩
    · cases e1
theorem sv_mv (ha : Pt X cl e i p) : Sv X cl e (mMv i p) := ⟨fun R F env env' d q σ H E Q k => by
  unfold mMv at q
  obtain ⟨l, e1, q1⟩ := bind1 q
  obtain ⟨d', e2, q2⟩ := bind1 q1
  split at q2
  · rename_i hs
    cases q2
    obtain ⟨d0, h0, hne, hp⟩ := getAt_some e2
    obtain ⟨v, F0, h3, h4⟩ := E.ev.at_ i d0 h0 hne
    obtain ⟨u, G, k1, k2, _⟩ := own_down l h4 hp
    have := k2.sh hs
    subst this
    refine ha.run _ env l e1 σ H E.ev E.vd' v u h3 k1 Q fun H' s1 => ?_
    exact k u H' F [] (E.ep s1 List.nodup_nil (fun _ z => nomatch z) (fun _ z => nomatch z)) (k2.mono s1) (Fr.same s1 fun a ha => .inl (by simpa using ha))
  · rename_i hs
    cases q2
    obtain ⟨v, u, G, F1, F2, h1, h2, h3, h4, h5⟩ := E.node e2 (by simpa using hs)
    refine ha.run _ env l e1 σ H E.ev E.vd' v u h1 h2 Q fun H' s1 => ?_
    have nF := E.nd
    rw [h3] at nF
    have nF2 := (List.nodup_append.mp nF).2.1
    have hsub : ∀ b, b ∈ F1 ++ F2 → b ∈ F := fun b hb => by rw [h3]; simp only [List.mem_append] at hb ⊢; rcases hb with z | z <;> simp [z]
    have gsub : ∀ b ∈ G, b ∈ F := fun b hb => by rw [h3]; simp [hb]
    have perm : ∀ b, b ∈ G ++ (R ++ (F1 ++ F2)) ↔ b ∈ R ++ F := fun b => by
      rw [h3]
      simp only [List.mem_append]
      constructor
      · rintro (z | z | z | z) <;> simp [z]
      · rintro (z | z | z | z) <;> simp [z]
    have kp : Keep (R ++ F) (G ++ (R ++ (F1 ++ F2))) (F1 ++ F2) H H' := ⟨fun b _ o h => s1 b o h, fun b o _ h => s1 b o h, fun b vs h => s1 _ _ h, fun b o u h => s1 _ _ h, fun b hb _ z => hb ((perm b).mp z)⟩
    have sl := h5 (G ++ (R ++ (F1 ++ F2))) H' .hole [] kp (.hole u)
    refine k u H' (F1 ++ F2) G ⟨sl, ?_, fun b hb => E.ap b (hsub b hb), E.vd.mono s1, (List.nodup_append.mp nF2).1, fun b hb => ⟨E.ap b (gsub b hb), fun z => ?_⟩, fun b hb n => E.sl.tracked b (gsub b hb) (Same.back s1 n)⟩ ((h4.mono s1).keep (Keep.re (K := X.K) fun b hb _ z => hb ((perm b).mp z))) (Fr.same s1 fun b hb => .inl ?_)
    · exact List.nodup_append.mpr ⟨(List.nodup_append.mp nF).1, (List.nodup_append.mp nF2).2.1, fun x hx y hy => (List.nodup_append.mp nF).2.2 x hx y (List.mem_append_right _ hy)⟩
    · rcases List.mem_append.mp z with z | z
      · exact (List.nodup_append.mp nF).2.2 b z b (List.mem_append_left _ hb) rfl
      · exact (List.nodup_append.mp nF2).2.2 b hb b z rfl
    · rcases List.mem_append.mp hb with z | z
      · exact gsub b z
      · exact hsub b z⟩
/-! ### statements -/
theorem sm_retM (h : Sv X cl e m) : Sm X cl io (.Return (some e) pos) (sRetM m) := ⟨fun R F env fl q σ H E D k => by
  unfold sRetM at q
  cases e1 : m env with
  | none => rw [e1] at q; cases q
  | some x =>
    obtain ⟨d, env'⟩ := x
    rw [e1] at q
    cases q
    refine wS.of (ps_ret pe_w) ?_
    exact h.run R F env env' d e1 σ H E _ fun v H' F' G ep o fr => k v σ H' F' G ep o fr Pin.refl⟩
theorem sm_dropM (h : Sv X cl e m) (hs : swapsWith e none pos.line X.env = pure false := by rfl) : Sm X cl io (.Expr e pos) (sDropM m) := ⟨fun R F env fl q σ H E D k => by
  unfold sDropM at q
  cases e1 : m env with
  | none => rw [e1] at q; cases q
  | some x =>
    obtain ⟨d, env'⟩ := x
    rw [e1] at q
    cases q
    refine wS.of (ps_expr pe_w hs) ?_
    exact h.run R F env env' d e1 σ H E _ fun v H' F' G ep o fr => k σ H' F' ep.er (fr.mono fun a ha => .inl (List.mem_append_right _ ha)) Pin.refl⟩
theorem sm_asgM (he : Sv X cl e m) (ht : Tt X cl io tg t0) (hs : swapsWithSole [tg] e pos.line X.env = pure false := by rfl) (hw : swappedStores [tg] e X.env = pure none := by rfl)
    (h1 : (assignEach [tg] X.env).map (·.2) = [assign tg X.env] := by rfl) : Sm X cl io (.Assign [tg] e pos) (sAsgM m t0) := ⟨fun R F env fl q σ H E D k => by
  unfold sAsgM at q
  obtain ⟨x, e1, q1⟩ := bind1 q
  obtain ⟨d, env1⟩ := x
  cases e2 : t0 d env1 with
  | none => rw [e2] at q1; cases q1
  | some env' =>
    rw [e2] at q1
    cases q1
    refine wS.of (ps_asg pe_w pg_w hs hw h1) ?_
    refine he.run R F env env1 d e1 σ H E _ fun v H' F' G ep o fr => ?_
    refine ht.run R G F' env1 env' d e2 σ H' v ep o _ fun σ' F'' E' sub pin => ?_
    exact k σ' H' F'' E' (fr.mono fun a ha => .inl ((sub a ha).elim (fun z => List.mem_append_right _ z) (fun z => List.mem_append_left _ z))) pin⟩
/-! ### pop -/
theorem getLast_some {α : Type} {xs : List α} {y : α} (h : xs.getLast? = some y) : 0 < xs.length ∧ xs[xs.length - 1]? = some y := by
  rw [List.getLast?_eq_getElem?] at h
  exact ⟨by
    cases xs with
    | nil => simp at h
    | cons _ _ => simp, h⟩
theorem eraseIdx_last {α : Type} (xs : List α) : xs.eraseIdx (xs.length - 1) = xs.dropLast := by
  rw [List.eraseIdx_eq_take_drop_succ, List.dropLast_eq_take]
  cases xs with
  | nil => rfl
  | cons x r => simp
theorem Owns.erase {K : PySem.W.Frag} : ∀ {W : List Addr} {H : Hp} {vs : List V} {ds : List D} {F : List Addr} {j : Nat} {d : D}, Owns K cl W H vs ds F → ds[j]? = some d → ∃ v G F1 F2, vs[j]? = some v ∧ F = F1 ++ (G ++ F2) ∧ Own K cl W H v d G ∧ Owns K cl W H (vs.eraseIdx j) (ds.eraseIdx j) (F1 ++ F2)
  | _, _, _, _, _, _, _, .nil, e => by simp at e
  | W, H, _, _, _, 0, d, .cons (v := v) (F := G) (G := F2) o os, e => by
    simp at e
    subst e
    exact ⟨v, G, [], F2, rfl, rfl, o, os⟩
  | W, H, _, _, _, j + 1, d, .cons (F := G0) o os, e => by
    obtain ⟨v, G, F1, F2, h1, h2, h3, h4⟩ := Owns.erase (j := j) (d := d) os (by simpa using e)
    refine ⟨v, G, G0 ++ F1, F2, by simpa using h1, by rw [h2, List.append_assoc], h3, ?_⟩
    rw [List.append_assoc]
    exact .cons o h4
/-- an item taken out of a list of one's own -/
theorem take_out {R F : List Addr} {σ : St} {H : Hp} {env : Env} {l : List St1} {xs : List D} {j : Nat} {y : D} (E : ER X.K cl R F σ H env) (hg : getAt i l env = some (.lst true xs)) (hy : xs[j]? = some y) :
    ∃ v q vs w, σ[i]? = some (some v) ∧ Nd X.K cl H v l (.ref q) ∧ H q = some (.lst vs) ∧ vs.length = xs.length ∧ vs[j]? = some w ∧ ∀ H2, Same H H2 → ∃ F' G, EP X.K cl R G F' σ (upd H2 q (.lst (vs.eraseIdx j))) (setAt i l (.lst true (xs.eraseIdx j)) env) ∧
      Own X.K cl (G ++ (R ++ F')) (upd H2 q (.lst (vs.eraseIdx j))) w y G ∧ Fr F H (G ++ F') (upd H2 q (.lst (vs.eraseIdx j))) := by
  obtain ⟨v, q, Gx, F1, F2, h1, h2, h3, h4, h5, h6, h7⟩ := E.nodeU hg rfl
  cases h4 with
  | lstO hq hs =>
    rename_i vs
    obtain ⟨w, G, A, B, g1, g2, g3, g4⟩ := hs.erase hy
    refine ⟨v, q, vs, w, h1, h2, hq, hs.length, g1, fun H2 s2 => ?_⟩
    have gx := (List.nodup_cons.mp h5).2
    have n1 : (A ++ (G ++ B)).Nodup := by rw [← g2]; exact gx
    have n2 := List.nodup_append.mp n1
    have n3 := List.nodup_append.mp n2.2.1
    have U := h7 H2 (A ++ B) G (.lst (vs.eraseIdx j)) rfl s2 (List.nodup_append.mpr ⟨List.nodup_append.mpr ⟨n2.1, n3.2.1, fun a ha b hb => n2.2.2 a ha b (List.mem_append_right _ hb)⟩, n3.1, fun a ha b hb => by
        rcases List.mem_append.mp ha with z | z
        · exact n2.2.2 a z b (List.mem_append_left _ hb)
        · exact fun e => n3.2.2 b hb a z e.symm⟩)
      (fun a ha => .inl (by rw [g2]; simp only [List.mem_append] at ha ⊢; rcases ha with z | z <;> simp [z])) (fun a ha => by rw [g2]; simp [ha])
    have sG : ∀ a ∈ G, a ∈ F := fun a ha => h6 a (List.mem_cons_of_mem _ (by rw [g2]; simp [ha]))
    have sAB : ∀ a ∈ A ++ B, a ∈ F := fun a ha => h6 a (List.mem_cons_of_mem _ (by rw [g2]; simp only [List.mem_append] at ha ⊢; rcases ha with z | z <;> simp [z]))
    obtain ⟨ep, fr⟩ := U.done (.lst true (xs.eraseIdx j)) (.lstO upd_same (U.kids _ _ ((g4.mono s2).weak fun a ha => by
      rcases List.mem_append.mp ha with z | z
      · exact List.mem_append_right _ (sAB a z)
      · exact z)))
    refine ⟨_, G, ep, U.out _ _ (g3.weak fun a ha => ?_), fr⟩
    rcases List.mem_append.mp ha with z | z
    · exact List.mem_append_right _ (sG a z)
    · exact z
theorem sv_pop (ha : Pt X cl a i p) {cpos : Pos} (hbase : attributeBase a "pop" X.env (eval a X.env) = eval a X.env := by rfl) (hline : (apos.endLine == cpos.line) = true := by rfl) : Sv X cl (.Call (.Attribute a "pop" apos) [] [] cpos) (mPop i p) := ⟨fun R F env env' d q σ H E Q k => by
  unfold mPop at q
  obtain ⟨l, e1, q1⟩ := bind1 q
  split at q1
  · rename_i xs hg
    cases hy : xs.getLast? with
    | none => rw [hy] at q1; cases q1
    | some y =>
      rw [hy] at q1
      cases q1
      obtain ⟨hpos, hy'⟩ := getLast_some hy
      obtain ⟨v, q, vs, w, h1, h2, h3, h4, h5, h6⟩ := take_out E hg hy'
      refine wE.of (pe_bm0 PySem.F.plainAttrs_list PySem.F.slot_list_pop PySem.F.type_list_pop mt_pop pe_w hbase hline) ?_
      refine ha.run _ env l e1 σ H E.ev E.vd' v _ h1 h2 _ fun H1 s1 => ?_
      refine ⟨.inl ⟨rfl, _, SqL.of (s1 _ _ h3)⟩, q, vs, w, rfl, rfl, s1 _ _ h3, by rw [h4]; exact h5, ?_⟩
      obtain ⟨F', G, ep, o, fr⟩ := h6 H1 s1
      have e3 : vs.eraseIdx (xs.length - 1) = vs.dropLast := by rw [← h4]; exact eraseIdx_last vs
      rw [eraseIdx_last xs, e3] at ep
      rw [e3] at o fr
      exact k w _ F' G ep o fr
  · cases q1⟩
theorem ixN_seq' {n : Nat} {z : Int} {j : Nat} (h : ixD n z = some j) : seqIndex? z n = some j := (ixN_seq (show ixN n z = some j from h)).1
theorem sv_popAt (ha : Pt X cl a i p) (hb : Pk X cl b g) {cpos : Pos} (h1 : starEach [b] X.env = (false, eval b X.env) :: starEach [] X.env := by rfl)
    (hpe : ∀ {ta : TE} {t : TA}, PE X a ta → PA X [b] t → PE X (.Call (.Attribute a "pop" apos) [b] [] cpos) (tBM X.K "list" rPopAt ta t) := by
      intro ta t h1 h2; exact pe_bm PySem.F.plainAttrs_list PySem.F.slot_list_pop PySem.F.type_list_pop mt_popAt h1 h2) : Sv X cl (.Call (.Attribute a "pop" apos) [b] [] cpos) (mPopAt i p g) := ⟨fun R F env env' d q σ H E Q k => by
  unfold mPopAt at q
  obtain ⟨l, e1, q1⟩ := bind1 q
  split at q1
  · rename_i xs hg
    obtain ⟨dz, e2, q2⟩ := bind1 q1
    split at q2
    · rename_i z
      obtain ⟨j, ej, q3⟩ := bind1 q2
      split at q3
      · rename_i hz
        cases hy : xs[j]? with
        | none => rw [hy] at q3; cases q3
        | some y =>
          rw [hy] at q3
          cases q3
          obtain ⟨v, q, vs, w, g1, g2, g3, g4, g5, g6⟩ := take_out E hg hy
          refine wE.of (hpe pe_w (pa_cons pe_w pa_nil h1)) ?_
          refine ha.run _ env l e1 σ H E.ev E.vd' v _ g1 g2 _ fun H1 s1 => ?_
          refine ⟨.inl ⟨rfl, _, SqL.of (s1 _ _ g3)⟩, ?_⟩
          refine hb.run _ env _ e2 σ H1 (E.ev.mono s1) (E.vd'.mono s1) _ fun u H2 G2 s2 o2 => ?_
          cases own_int o2
          refine ⟨q, vs, z, j, w, rfl, rfl, s2 _ _ (s1 _ _ g3), hz.1, hz.2, by rw [g4]; exact ixN_seq' ej, g5, ?_⟩
          obtain ⟨F', G, ep, o, fr⟩ := g6 H2 (s1.trans s2)
          exact k w _ F' G ep o fr
      · cases q3
    · cases q2
  · cases q1⟩
end
end Tg

namespace Tg
open PySem PySem.Spec L2
/-! ### lists of one's own, by their methods; fields stored; counting up -/
def sExt (i : Nat) (p : EP1) (e : EE) : SS := fun env => (p env).bind fun l => match getAt i l env with
  | some (.lst true xs) => (e env).bind fun d => match d with
    | .lst _ ys => if xs.length + ys.length ≤ line then some (.nx (setAt i l (.lst true (xs ++ ys)) env)) else none
    | _ => none
  | _ => none
def sRev (i : Nat) (p : EP1) : SS := fun env => (p env).bind fun l => match getAt i l env with
  | some (.lst true xs) => if D.shs xs then some (.nx (setAt i l (.lst true xs.reverse) env)) else none
  | _ => none
def sClr (i : Nat) (p : EP1) : SS := fun env => (p env).bind fun l => match getAt i l env with
  | some (.lst true xs) => some (.nx (setAt i l (.lst true []) env))
  | _ => none
def sAugN (i : Nat) (e : EE) : SS := fun env => match env[i]? with
  | some (.int a) => match e env with
    | some (.int b) => some (.nx (env.set i (.int (a + b))))
    | _ => none
  | _ => none
def sAugS (i : Nat) (p : EP1) (k e : EE) : SS := fun env => (p env).bind fun l => match getAt i l env with
  | some (.lst true xs) => match k env with
    | some (.int z) => (ixD xs.length z).bind fun j => match xs[j]? with
      | some (.int a) => match e env with
        | some (.int b) => some (.nx (setAt i l (.lst true (xs.set j (.int (a + b)))) env))
        | _ => none
      | _ => none
    | _ => none
  | _ => none
/-- path.f = e -/
def sSetF (i : Nat) (p : EP1) (c : Nat) (f : Str) (e : EE) : SS := fun env => (e env).bind fun y => (p env).bind fun l => match getAt i l env with
  | some (.obj true c' fs) => if c = c' ∧ fs.length < 1000 then some (.nx (setAt i l (.obj true c' (putFD f y fs)) env)) else none
  | _ => none
section
variable {X : Cx} {cl : Nat → Addr} {io : List Nat} {a b c e tg : Expr} {f g h : EE} {pos apos : Pos} {i : Nat} {p : EP1} {t0 : TgT} {m : EM}
theorem Owns.shsR {K : PySem.W.Frag} {W : List Addr} {H : Hp} {vs : List V} {ds : List D} (h : Owns K cl W H vs ds []) : Owns K cl W H vs.reverse ds.reverse [] := by
  generalize hF : ([] : List Addr) = F at h
  induction h using Owns.rec (motive_1 := fun _ _ _ _ => True) with
  | nil => exact .nil
  | cons o os _ ih =>
    obtain ⟨rfl, rfl⟩ := app_nil2 hF.symm
    rw [List.reverse_cons, List.reverse_cons]
    exact Owns.append (F := []) (G := []) (ih rfl) (Owns.cons (F := []) (G := []) o .nil)
  | _ => trivial
theorem own_lstN {K : PySem.W.Frag} {W : List Addr} {H : Hp} {v : V} {F : List Addr} {o : Bool} {ds : List D} (h : Own K cl W H v (.lst o ds) F) : ∃ a vs G, v = .ref a ∧ H a = some (.lst vs) ∧ Owns K cl W H vs ds G ∧ (∀ b ∈ G, b ∈ F) ∧ (F.Nodup → G.Nodup) := by
  cases h with
  | lstO h hs => exact ⟨_, _, _, rfl, h, hs, fun b hb => List.mem_cons_of_mem _ hb, fun n => (List.nodup_cons.mp n).2⟩
  | lstF h hn hs => exact ⟨_, _, _, rfl, h, hs, fun b hb => hb, fun n => n⟩
/-- a list of one's own gets other items, none of which is new -/
theorem list_new {R F : List Addr} {σ : St} {H : Hp} {env : Env} {l : List St1} {xs : List D} (E : ER X.K cl R F σ H env) (hg : getAt i l env = some (.lst true xs)) :
    ∃ v q vs Gx, σ[i]? = some (some v) ∧ Nd X.K cl H v l (.ref q) ∧ H q = some (.lst vs) ∧ Owns X.K cl (R ++ F) H vs xs Gx ∧ vs.length = xs.length ∧ Gx.Nodup ∧ (∀ a ∈ Gx, a ∈ F) ∧
      ∀ (H2 : Hp) (vs' : List V) (xs' : List D) (Gn : List Addr), Same H H2 → Gn.Nodup → (∀ a ∈ Gn, a ∈ Gx ∨ H a = none) → Owns X.K cl (Gn ++ (R ++ F)) H2 vs' xs' Gn →
        ∃ F', ER X.K cl R F' σ (upd H2 q (.lst vs')) (setAt i l (.lst true xs') env) ∧ Fr F H F' (upd H2 q (.lst vs')) := by
  obtain ⟨v, q, Gx, F1, F2, h1, h2, h3, h4, h5, h6, h7⟩ := E.nodeU hg rfl
  cases h4 with
  | lstO hq hs =>
    rename_i vs
    refine ⟨v, q, vs, Gx, h1, h2, hq, hs, hs.length, (List.nodup_cons.mp h5).2, fun a ha => h6 a (List.mem_cons_of_mem _ ha), fun H2 vs' xs' Gn s2 nd sub o2 => ?_⟩
    have U := h7 H2 Gn [] (.lst vs') rfl s2 (by rw [List.append_nil]; exact nd) sub (fun _ z => nomatch z)
    obtain ⟨ep, fr⟩ := U.done (.lst true xs') (.lstO upd_same (U.kids _ _ o2))
    exact ⟨_, ep.er, fr⟩
theorem sm_ext (ha : Pt X cl a i p) (he : Se X cl e f) {pos2 : Pos} (hs : swapsWith (.Call (.Attribute a "extend" apos) [e] [] pos) none pos2.line X.env = pure false := by rfl)
    (hpe : ∀ {ta : TE} {t : TA}, PE X a ta → PA X [e] t → PE X (.Call (.Attribute a "extend" apos) [e] [] pos) (tBM X.K "list" rExtend ta t) := by
      intro ta t h1 h2; exact pe_bm PySem.F.plainAttrs_list PySem.F.slot_list_extend PySem.F.type_list_extend mt_extend h1 h2)
    (h1 : starEach [e] X.env = (false, eval e X.env) :: starEach [] X.env := by rfl) : Sm X cl io (.Expr (.Call (.Attribute a "extend" apos) [e] [] pos) pos2) (sExt i p f) := ⟨fun R F env fl q σ H E D k => by
  unfold sExt at q
  obtain ⟨l, e1, q1⟩ := bind1 q
  split at q1
  · rename_i xs hg
    obtain ⟨d, e2, q2⟩ := bind1 q1
    split at q2
    · rename_i o ys
      split at q2
      · rename_i hz
        cases q2
        obtain ⟨v, q, vs, Gx, g1, g2, g3, g4, g5, g6, g7, g8⟩ := list_new E hg
        refine wS.of (ps_expr (hpe pe_w (pa_cons pe_w pa_nil h1)) hs) ?_
        refine ha.run _ env l e1 σ H E.ev E.vd' v _ g1 g2 _ fun H1 s1 => ?_
        refine ⟨.inl ⟨rfl, _, SqL.of (s1 _ _ g3)⟩, ?_⟩
        refine he.run _ env _ e2 σ H1 (E.ev.mono s1) (E.vd'.mono s1) _ fun u H2 Gy s2 o2 n2 f2 => ?_
        have s := s1.trans s2
        obtain ⟨b, zs, Gz, rfl, hb, hz', sub, nzi⟩ := own_lstN o2
        have nz : Gz.Nodup := nzi n2
        refine ⟨q, b, vs, zs, rfl, rfl, s _ _ g3, hb, by rw [g5, hz'.length, ← line_eq]; exact hz, ?_⟩
        obtain ⟨F', er, fr⟩ := g8 H2 (vs ++ zs) (xs ++ ys) (Gx ++ Gz) s (List.nodup_append.mpr ⟨g6, nz, fun x hx y hy z => E.sl.tracked x (g7 x hx) (by rw [z]; exact Same.back s1 (f2 y (sub y hy)))⟩)
          (fun x hx => (List.mem_append.mp hx).elim .inl fun z => .inr (Same.back s1 (f2 x (sub x z))))
          (Owns.append (g4.growS s fun x hx => by
            simp only [List.mem_append] at hx ⊢
            rcases hx with (z | z) | z | z
            · exact .inl (.inr (g7 x z))
            · exact .inr (Same.back s1 (f2 x (sub x z)))
            · exact .inl (.inl z)
            · exact .inl (.inr z)) (hz'.weak fun x hx => by
            simp only [List.mem_append] at hx ⊢
            rcases hx with (z | z) | z | z
            · exact .inr (.inr (g7 x z))
            · exact .inl (sub x z)
            · exact .inr (.inl z)
            · exact .inr (.inr z)))
        exact k σ _ _ er fr Pin.refl
      · cases q2
    · cases q2
  · cases q1⟩
theorem sm_rev (ha : Pt X cl a i p) {pos2 cpos : Pos} (hs : swapsWith (.Call (.Attribute a "reverse" apos) [] [] cpos) none pos2.line X.env = pure false := by rfl) (hbase : attributeBase a "reverse" X.env (eval a X.env) = eval a X.env := by rfl) (hline : (apos.endLine == cpos.line) = true := by rfl) :
    Sm X cl io (.Expr (.Call (.Attribute a "reverse" apos) [] [] cpos) pos2) (sRev i p) := ⟨fun R F env fl q σ H E D k => by
  unfold sRev at q
  obtain ⟨l, e1, q1⟩ := bind1 q
  split at q1
  · rename_i xs hg
    split at q1
    · rename_i hsh
      cases q1
      obtain ⟨v, q, vs, Gx, g1, g2, g3, g4, g5, g6, g7, g8⟩ := list_new E hg
      refine wS.of (ps_expr (pe_bm0 PySem.F.plainAttrs_list PySem.F.slot_list_reverse PySem.F.type_list_reverse mt_reverse pe_w hbase hline) hs) ?_
      refine ha.run _ env l e1 σ H E.ev E.vd' v _ g1 g2 _ fun H1 s1 => ?_
      refine ⟨.inl ⟨rfl, _, SqL.of (s1 _ _ g3)⟩, q, vs, rfl, rfl, s1 _ _ g3, ?_⟩
      obtain ⟨F', er, fr⟩ := g8 H1 vs.reverse xs.reverse [] s1 List.nodup_nil (fun _ z => nomatch z) ((g4.shs hsh).shsR.mono s1)
      exact k σ _ _ er fr Pin.refl
    · cases q1
  · cases q1⟩
theorem sm_clr (ha : Pt X cl a i p) {pos2 cpos : Pos} (hs : swapsWith (.Call (.Attribute a "clear" apos) [] [] cpos) none pos2.line X.env = pure false := by rfl) (hbase : attributeBase a "clear" X.env (eval a X.env) = eval a X.env := by rfl) (hline : (apos.endLine == cpos.line) = true := by rfl) :
    Sm X cl io (.Expr (.Call (.Attribute a "clear" apos) [] [] cpos) pos2) (sClr i p) := ⟨fun R F env fl q σ H E D k => by
  unfold sClr at q
  obtain ⟨l, e1, q1⟩ := bind1 q
  split at q1
  · rename_i xs hg
    cases q1
    obtain ⟨v, q, vs, Gx, g1, g2, g3, g4, g5, g6, g7, g8⟩ := list_new E hg
    refine wS.of (ps_expr (pe_bm0 PySem.F.plainAttrs_list PySem.F.slot_list_clear PySem.F.type_list_clear mt_clear pe_w hbase hline) hs) ?_
    refine ha.run _ env l e1 σ H E.ev E.vd' v _ g1 g2 _ fun H1 s1 => ?_
    refine ⟨.inl ⟨rfl, _, SqL.of (s1 _ _ g3)⟩, q, vs, rfl, rfl, s1 _ _ g3, ?_⟩
    obtain ⟨F', er, fr⟩ := g8 H1 [] [] [] s1 List.nodup_nil (fun _ z => nomatch z) .nil
    exact k σ _ _ er fr Pin.refl
  · cases q1⟩
theorem sm_augN (i : Nat) {x : Str} {pos' : Pos} (nd : X.N.Nodup) (he : Pk X cl e f) (hi : X.N[i]? = some x := by rfl) (hx : Loc X.env.scope x := by first | exact Or.inl rfl | exact Or.inr rfl) (hf : X.fn x = true ∨ X.env.scope.names.lookup x = some .local := by first | exact .inl rfl | exact .inr rfl | assumption) (hio : i ∉ io := by decide) :
    Sm X cl io (.AugAssign (.Name x pos') .Add e pos) (sAugN i f) := ⟨fun R F env fl q σ H E D k => by
  unfold sAugN at q
  split at q
  · rename_i z hz
    split at q
    · rename_i w hw
      cases q
      obtain ⟨v, G, h1, h2⟩ := E.ev.at_ i _ hz (by intro z; cases z)
      cases own_int h2
      refine wS.of (ps_aug nd hi hx pe_w ip_add hf) ⟨_, h1, ?_⟩
      refine he.run _ env _ hw σ H E.ev E.vd' _ fun u H1 G1 s1 o1 => ?_
      cases own_int o1
      refine ⟨z, w, rfl, rfl, ?_⟩
      obtain ⟨F', er, fr⟩ := E.set (G := []) (by exact (List.getElem?_eq_some_iff.mp hz).1) s1 (.int (z + w)) List.nodup_nil (fun _ z => nomatch z)
      exact k _ _ _ er fr (Pin.set hio)
    · cases q
  · cases q⟩
theorem getL : PGet X (rIxL X.K) := by
  intro pins s σ H x y v u Q I rx ry h
  obtain ⟨p, xs, i, z, rfl, rfl, hq, he, q⟩ := h
  cases rx
  obtain ⟨t, rfl⟩ := ry
  obtain ⟨its, r, pl, hz⟩ := I.list hq
  obtain ⟨j, h1, h2, h3, h4, h5⟩ := atI_get he
  obtain ⟨w, ew, rw'⟩ := r.get h2
  have hl := r.length
  have hn := line63
  have fin : L2.EP X pins σ Q w s := ⟨z, H, I, rw', q⟩
  by_cases h0 : 0 ≤ i
  · have hj : i.toNat = j := by
      rw [PySem.seqIndex_of h0 h5] at h1
      exact Option.some.inj h1
    exact PySem.wpAny_getItem_list pl.isList h0 (by omega) (by rw [hj]; simpa using ew) fin
  · have hj : (i + (its.toArray.size : Int)).toNat = j := by
      rw [PySem.seqIndex_neg (by omega) h4] at h1
      rw [List.size_toArray, ← hl]
      exact Option.some.inj h1
    exact PySem.wpAny_getItem_list_neg pl.isList (by omega) (by rw [List.size_toArray] <;> omega) (by omega) (by rw [hj]; simpa using ew) fin
theorem sm_augS (ha : Pt X cl a i p) (hb : Pk X cl b g) (he : Pk X cl e f) {tpos : Pos} (hau : ∀ ov iv new, augStore b ov iv new = (do holding [new, ov, iv] (setItem ov iv new); release [new, ov, iv] []; pure .next) := by intros; rfl) : Sm X cl io (.AugAssign (.Subscript a b tpos) .Add e pos) (sAugS i p g f) := ⟨fun R F env fl q σ H E D k => by
  unfold sAugS at q
  obtain ⟨l, e1, q1⟩ := bind1 q
  split at q1
  · rename_i xs hg
    split at q1
    · rename_i z e2
      obtain ⟨j, ej, q2⟩ := bind1 q1
      split at q2
      · rename_i n en
        split at q2
        · rename_i m' e3
          cases q2
          obtain ⟨v, q, vs, Gx, g1, g2, g3, g4, g5, g6, g7, g8⟩ := list_new E hg
          refine wS.of (ps_augS pe_w pe_w getL pe_w ip_add set_list hau) ?_
          refine ha.run _ env l e1 σ H E.ev E.vd' v _ g1 g2 _ fun H1 s1 => ?_
          refine hb.run _ env _ e2 σ H1 (E.ev.mono s1) (E.vd'.mono s1) _ fun u H2 G2 s2 o2 => ?_
          cases own_int o2
          have s12 := s1.trans s2
          obtain ⟨w, G, A, B, k1, k2, k3, k4⟩ := g4.zoom en
          cases own_int k3
          refine ⟨q, vs, z, .int n, rfl, rfl, SqL.of (s12 _ _ g3), ?_, ?_⟩
          · show (ixN vs.length z).bind _ = _
            rw [g5, show ixN xs.length z = some j from ej]
            exact k1
          refine he.run _ env _ e3 σ H2 (E.ev.mono s12) (E.vd'.mono s12) _ fun u3 H3 G3 s3 o3 => ?_
          cases own_int o3
          have s123 := s12.trans s3
          refine ⟨n, m', rfl, rfl, q, vs, z, j, rfl, rfl, s123 _ _ g3, by rw [g5]; exact ej, ?_⟩
          have sub : ∀ x ∈ A ++ ([] ++ B), x ∈ Gx := fun x hx => by
            rw [k2]
            simp only [List.nil_append, List.mem_append] at hx ⊢
            rcases hx with z | z <;> simp [z]
          obtain ⟨F', er, fr⟩ := g8 H3 (vs.set j (.int (n + m'))) (xs.set j (.int (n + m'))) (A ++ ([] ++ B)) s123 (by
            rw [k2] at g6
            have n1 := List.nodup_append.mp g6
            have n2 := List.nodup_append.mp n1.2.1
            exact List.nodup_append.mpr ⟨n1.1, n2.2.1, fun x hx y hy => n1.2.2 x hx y (List.mem_append_right _ hy)⟩) (fun x hx => .inl (sub x hx))
            (k4 _ H3 (.int (n + m')) (.int (n + m')) [] ⟨fun x _ o h => s123 _ _ h, fun x o _ h => s123 _ _ h, fun x vs h => s123 _ _ h, fun x o u h => s123 _ _ h, fun x hx _ z => by
              rcases List.mem_append.mp z with z | z
              · exact hx (List.mem_append_right _ (g7 x (sub x z)))
              · exact hx z⟩ (.int _))
          exact k σ _ _ er fr Pin.refl
        · cases q2
      · cases q2
    · cases q1
  · cases q1⟩
end
end Tg

namespace Tg
open PySem PySem.Spec L2 RT RZ
/-! ### a list or a tuple taken apart -/
def tgX (ts : List TgT) : TgT := fun d env => match d with
  | .tup xs => tgs ts xs env
  | .lst _ xs => tgs ts xs env
  | _ => none
section
variable {X : Cx} {cl : Nat → Addr} {io : List Nat} {a b c e tg : Expr} {f g h : EE} {pos apos : Pos} {i : Nat} {p : EP1} {t0 : TgT} {m : EM}
theorem tt_tupX {es : List Expr} {k0 : Nat} {ts : List TgT} {n : Nat} (h : Tts X cl io es ts) (hc : X.calm = true := by rfl) (hn : (assignEach es X.env).length = n := by rfl) (hst : (assignEach es X.env).findIdx? (·.1) = none := by rfl) (hl : ts.length = n := by rfl) : Tt X cl io (.Tuple es k0 pos) (tgX ts) := ⟨fun R G F env env' d q σ H v E o Q k => by
  unfold tgX at q
  split at q
  · rename_i xs
    obtain ⟨p, vs, rfl, hp, hs⟩ := own_tup o
    refine wG.of (pg_tup hc pgs_w hn hst) ⟨p, vs, rfl, hp, ?_, ?_⟩
    · rw [hs.length, ← hl]
      exact tgs_len q
    · obtain ⟨t, ht, qt⟩ := h.run R G F env env' xs q σ H vs E hs Q k
      exact wGs.of ht qt
  · rename_i ob xs
    obtain ⟨p, vs, Gx, rfl, hp, hs, sub, nd⟩ := own_lstN o
    refine wG.of (pg_unl hc pgs_w hn hst) ⟨p, vs, rfl, SqL.of hp, ?_, ?_⟩
    · rw [hs.length, ← hl]
      exact tgs_len q
    · have E' : EP X.K cl R Gx F σ H env := ⟨E.sl.keep (Keep.re (K := X.K) fun x hx _ z => hx (by
        simp only [List.mem_append] at z ⊢
        rcases z with z | z | z
        · exact .inl (sub x z)
        · exact .inr (.inl z)
        · exact .inr (.inr z))), E.nd, E.ap, E.vd, nd E.gn, fun x hx => E.gr x (sub x hx), fun x hx => E.gt x (sub x hx)⟩
      obtain ⟨t, ht, qt⟩ := h.run R Gx F env env' xs q σ H vs E' (hs.weak fun x hx => by
        simp only [List.mem_append] at hx ⊢
        rcases hx with z | z | z
        · exact .inl (sub x z)
        · exact .inr (.inl z)
        · exact .inr (.inr z)) Q fun σ' F' er sb pin => k σ' F' er (fun x hx => (sb x hx).elim .inl fun z => .inr (sub x z)) pin
      exact wGs.of ht qt
  · cases q⟩
/-! ### fields stored -/
theorem Owns.putF {K : PySem.W.Frag} {W : List Addr} {H : Hp} {fl : Str} {u : V} {y : Tg.D} {Gy : List Addr} (oy : Own K cl W H u y Gy) : ∀ {vfs : List (Str × V)} {fs : List (Str × Tg.D)} {G0 : List Addr}, vfs.map (·.1) = fs.map (·.1) → Owns K cl W H (vfs.map (·.2)) (fs.map (·.2)) G0 →
    ∃ Gn, (L2.putF fl u vfs).map (·.1) = (putFD fl y fs).map (·.1) ∧ Owns K cl W H ((L2.putF fl u vfs).map (·.2)) ((putFD fl y fs).map (·.2)) Gn ∧ (∀ x ∈ Gn, x ∈ G0 ∨ x ∈ Gy) ∧ ((G0 ++ Gy).Nodup → Gn.Nodup)
  | [], [], _, _, .nil => ⟨Gy ++ [], rfl, .cons oy .nil, fun x hx => .inr (by simpa using hx), fun h => by simpa using h⟩
  | [], _ :: _, _, e, _ => by simp at e
  | _ :: _, [], _, e, _ => by simp at e
  | (g, x) :: r, (g', x') :: r', _, e, o => by
    have hh : g = g' ∧ r.map (·.1) = r'.map (·.1) := by simpa using e
    obtain ⟨rfl, hr⟩ := hh
    cases o with
    | cons o os =>
      rename_i G1 G2
      by_cases hf : g = fl
      · refine ⟨Gy ++ G2, ?_, ?_, fun z hz => ?_, fun hn => ?_⟩
        · unfold L2.putF putFD
          rw [if_pos hf, if_pos hf]
          simp [hf, hr]
        · unfold L2.putF putFD
          rw [if_pos hf, if_pos hf]
          exact .cons oy os
        · rcases List.mem_append.mp hz with z' | z'
          · exact .inr z'
          · exact .inl (List.mem_append_right _ z')
        · have n := List.nodup_append.mp hn
          exact List.nodup_append.mpr ⟨n.2.1, (List.nodup_append.mp n.1).2.1, fun a ha b hb z => n.2.2 b (List.mem_append_right _ hb) a ha z.symm⟩
      · obtain ⟨Gn, h1, h2, h3, h4⟩ := Owns.putF (fl := fl) oy hr os
        refine ⟨G1 ++ Gn, ?_, ?_, fun z hz => ?_, fun hn => ?_⟩
        · unfold L2.putF putFD
          rw [if_neg hf, if_neg hf]
          simp [h1]
        · unfold L2.putF putFD
          rw [if_neg hf, if_neg hf]
          exact .cons o h2
        · rcases List.mem_append.mp hz with z' | z'
          · exact .inl (List.mem_append_left _ z')
          · exact (h3 z z').elim (fun w => .inl (List.mem_append_right _ w)) .inr
        · have n := List.nodup_append.mp hn
          have n1 := List.nodup_append.mp n.1
          refine List.nodup_append.mpr ⟨n1.1, h4 (List.nodup_append.mpr ⟨n1.2.1, n.2.1, fun a ha b hb => n.2.2 a (List.mem_append_right _ ha) b hb⟩), fun a ha b hb z => ?_⟩
          rcases h3 b hb with w | w
          · exact n1.2.2 a ha b w z
          · exact n.2.2 a (List.mem_append_left _ ha) b w z
theorem sm_setF {cc : Nat} {fl : Str} (he : Se X cl e f) (ha : Pt X cl a i p) (c : Cls X.K (cl cc)) (n : NoAttr X.K (cl cc) fl) {spos : Pos} (hs : swapsWith e (some (.Attribute a fl pos)) spos.line X.env = pure false := by rfl) :
    Sm X cl io (.Assign [.Attribute a fl pos] e spos) (sSetF i p cc fl f) := ⟨fun R F env fl' q σ H E D k => by
  unfold sSetF at q
  obtain ⟨y, e1, q0⟩ := bind1 q
  obtain ⟨l, e2, q1⟩ := bind1 q0
  split at q1
  · rename_i c' fs hg
    split at q1
    · rename_i hz
      obtain ⟨rfl, hlen⟩ := hz
      cases q1
      obtain ⟨v, q, Gx, F1, F2, h1, h2, h3, h4, h5, h6, h7⟩ := E.nodeU hg rfl
      cases h4 with
      | objO hq en hs' =>
        rename_i dx vfs
        have gx := (List.nodup_cons.mp h5).2
        refine wS.of (ps_fld pe_w pe_w hs) ?_
        refine he.run _ env y e1 σ H E.ev E.vd' _ fun u H1 Gy s1 o1 n1 f1 => ?_
        refine ha.run _ env l e2 σ H1 (E.ev.mono s1) (E.vd'.mono s1) v _ h1 (h2.mono s1) _ fun H2 s2 => ?_
        have s := s1.trans s2
        have hl : vfs.length = fs.length := by
          have := congrArg List.length en
          simpa using this
        refine ⟨q, cl cc, dx, vfs, rfl, s _ _ hq, c, n, by rw [hl]; exact hlen, ?_⟩
        -- the fields behind it
        have gnF : ∀ x ∈ Gx, x ∈ F := fun x hx => h6 x (List.mem_cons_of_mem _ hx)
        have w1 : Owns X.K cl ((Gx ++ Gy) ++ (R ++ F)) H2 (vfs.map (·.2)) (fs.map (·.2)) Gx := hs'.growS s fun x hx => by
          simp only [List.mem_append] at hx ⊢
          rcases hx with (z | z) | z | z
          · exact .inl (.inr (gnF x z))
          · exact .inr (f1 x z)
          · exact .inl (.inl z)
          · exact .inl (.inr z)
        have w2 : Own X.K cl ((Gx ++ Gy) ++ (R ++ F)) H2 u y Gy := (o1.mono s2).weak fun x hx => by
          simp only [List.mem_append] at hx ⊢
          rcases hx with (z | z) | z | z
          · exact .inr (.inr (gnF x z))
          · exact .inl z
          · exact .inr (.inl z)
          · exact .inr (.inr z)
        obtain ⟨Gn, k3, k4', k1, k2'⟩ := Owns.putF (fl := fl) w2 en w1
        have k2 : Gn.Nodup := k2' (List.nodup_append.mpr ⟨gx, n1, fun x hx y hy z => E.sl.tracked x (gnF x hx) (by rw [z]; exact f1 y hy)⟩)
        have k4 : Owns X.K cl (Gn ++ (R ++ F)) H2 ((putF fl u vfs).map (·.2)) ((putFD fl y fs).map (·.2)) Gn := k4'.weak fun x hx => by
          rcases List.mem_append.mp hx with z | z
          · exact List.mem_append_left _ (List.mem_append.mpr (k1 x z))
          · exact List.mem_append_right _ z
        have U := h7 H2 Gn [] (.ins (cl cc) dx (putF fl u vfs)) rfl s (by rw [List.append_nil]; exact k2) (fun x hx => (k1 x hx).elim .inl fun z => .inr (f1 x z)) (fun _ z => nomatch z)
        obtain ⟨ep, fr⟩ := U.done (.obj true cc (putFD fl y fs)) (.objO upd_same k3 (U.kids _ _ k4))
        exact k σ _ _ ep.er fr Pin.refl
    · cases q1
  · cases q1⟩
/-! ### what is walked -/
theorem ii_enum {elts : List Expr} {kk : Nat} {tpos p : Pos} (ha : Se X cl a f) (hg : Gl X "enumerate") (hm : X.mg "enumerate" = none) (h1 : starEach [a] X.env = (false, eval a X.env) :: starEach [] X.env := by rfl) (hs : starEach [a] X.env = [(false, eval a X.env)] := by rfl) :
    Ii X cl (.Tuple elts kk tpos) (.Call (.Name "enumerate" p) [a] [] pos) (iEnum f) := ⟨fun W env ds q σ H E V => by
  unfold iEnum at q
  obtain ⟨d, e1, q1⟩ := bind1 q
  split at q1
  · rename_i ob xs
    split at q1
    · rename_i hsh
      cases q1
      refine ⟨_, pi_enum hg hm (pa_cons pe_w pa_nil h1) hs, fun R k => ?_⟩
      refine ha.run W env _ e1 σ H E V _ fun v H1 F s1 o1 n1 f1 => ?_
      have nW : ∀ p vs, v = .ref p → H1 p = some (.lst vs) → p ∉ W := fun p vs e hp z => by
        cases o1 with
        | lstO h _ =>
          cases e
          exact V p z (f1 p List.mem_cons_self)
        | lstF h hn _ =>
          cases e
          exact hn (List.mem_append_right _ z)
      obtain ⟨p, vs, G, rfl, hp, hv, _⟩ := own_lst o1
      have hv' : Owns X.K cl W H1 vs xs [] := (hv.shs hsh).weak fun a ha => List.mem_append_right _ ha
      refine ⟨p, vs, rfl, SqL.of hp, ?_⟩
      have hl : ((List.range xs.length).zipWith (fun (k : Nat) x => Tg.D.tup [.int (k : Int), x]) xs).length = vs.length := by simp [hv.length]
      refine k (Ite X.K p) H1 (fun H => SqL X.K H p vs) _ s1 (by rw [hl]; exact walk_enum) (fun W2 H2 kp => SqL.of (kp.out _ _ (nW p vs rfl hp) hp)) fun i x H2 H3 W2 d kp y hd => ?_
      obtain ⟨T, x1, y1, rfl, hT, rfl, hx1, hy1⟩ := y
      cases hx1
      rw [List.getElem?_zipWith] at hd
      cases hi : xs[i]? with
      | none => rw [hi] at hd; simp at hd
      | some di =>
        have hil : i < xs.length := (List.getElem?_eq_some_iff.mp hi).1
        rw [hi] at hd
        simp [List.getElem?_range hil] at hd
        subst hd
        obtain ⟨w, Gw, g1, g2, g3⟩ := hv'.get hi
        have : Gw = [] := List.eq_nil_iff_forall_not_mem.mpr fun a ha => nomatch g3 a ha
        subst this
        have hy1' : vs[i]? = some y1 := hy1
        rw [hy1'] at g1
        cases g1
        refine ⟨same_new hT, .tup upd_same (Owns.cons (F := []) (G := []) (.int _) (Owns.cons (F := []) (G := []) ((g2.keep kp).mono (same_new hT)) .nil))⟩
    · cases q1
  · cases q1⟩
theorem own_notW {K : PySem.W.Frag} {W F : List Addr} {H H1 : Hp} {v : L2.V} {ob : Bool} {xs : List Tg.D} (hV : VD W H) (o1 : Own K cl (F ++ W) H1 v (.lst ob xs) F) (f1 : ∀ a ∈ F, H a = none) : ∀ p vs, v = .ref p → H1 p = some (.lst vs) → p ∉ W := fun p vs e hp z => by
  cases o1 with
  | lstO h _ =>
    cases e
    exact hV p z (f1 p List.mem_cons_self)
  | lstF h hn _ =>
    cases e
    exact hn (List.mem_append_right _ z)
def iRevD (f : EE) : It := fun env => (f env).bind fun d => match d with
  | .lst _ xs => if D.shs xs then some xs.reverse else none
  | .tup xs => if D.shs xs then some xs.reverse else none
  | _ => none
theorem walk_revT {K : PySem.W.Frag} {a : Addr} {xs : List V} : Walk (ItvT K a xs.length) xs.length (fun H => SqT K H a xs) (fun i H x H' => H' = H ∧ xs[xs.length - 1 - i]? = some x) :=
  ⟨fun i _ hi q => ⟨hi, xs, xs[xs.length - 1 - i]'(by omega), q, by simp [show xs.length - 1 - i < xs.length by omega]⟩, fun _ _ => Nat.le_refl _, fun _ _ _ _ _ q y => ⟨y.1, y.2 xs q⟩⟩
theorem ii_rev {p : Pos} (ha : Se X cl a f) (hg : Gl X "reversed") (hm : X.mg "reversed" = none) (h1 : starEach [a] X.env = (false, eval a X.env) :: starEach [] X.env := by rfl) :
    Ii X cl tg (.Call (.Name "reversed" p) [a] [] pos) (iRevD f) := ⟨fun W env ds q σ H E V => by
  unfold iRevD at q
  obtain ⟨d, e1, q1⟩ := bind1 q
  have rv : ∀ {vs : List L2.V} {xs : List Tg.D} {n i : Nat} {d : Tg.D}, vs.length = xs.length → xs.reverse[i]? = some d → i < xs.length ∧ xs[xs.length - 1 - i]? = some d := fun {vs xs n i d} hl hd => by
    have hi : i < xs.length := by
      have := (List.getElem?_eq_some_iff.mp hd).1
      simpa using this
    rw [List.getElem?_reverse hi] at hd
    exact ⟨hi, hd⟩
  split at q1
  · rename_i ob xs
    split at q1
    · rename_i hsh
      cases q1
      refine ⟨_, pi_revA hg hm pe_w h1, fun R k => ?_⟩
      refine ha.run W env _ e1 σ H E V _ fun v H1 F s1 o1 n1 f1 => ?_
      have nW := own_notW V o1 f1
      obtain ⟨p, vs, G, rfl, hp, hv, _⟩ := own_lst o1
      have hv' : Owns X.K cl W H1 vs xs [] := (hv.shs hsh).weak fun a ha => List.mem_append_right _ ha
      refine ⟨p, vs, rfl, .inl ⟨SqL.of hp, ?_⟩⟩
      refine k (Itv X.K p vs.length) H1 (fun H => SqL X.K H p vs) _ s1 (by rw [List.length_reverse, ← hv.length]; exact walk_rev) (fun W2 H2 kp => SqL.of (kp.out _ _ (nW p vs rfl hp) hp)) fun i x H2 H3 W2 d kp y hd => ?_
      obtain ⟨rfl, hx⟩ := y
      obtain ⟨hi, hd'⟩ := rv (n := 0) hv.length hd
      obtain ⟨w, Gw, g1, g2, g3⟩ := hv'.get hd'
      have : Gw = [] := List.eq_nil_iff_forall_not_mem.mpr fun a ha => nomatch g3 a ha
      subst this
      rw [hv.length, g1] at hx
      cases hx
      exact ⟨Same.refl _, g2.keep kp⟩
    · cases q1
  · rename_i xs
    split at q1
    · rename_i hsh
      cases q1
      refine ⟨_, pi_revA hg hm pe_w h1, fun R k => ?_⟩
      refine ha.run W env _ e1 σ H E V _ fun v H1 F s1 o1 n1 f1 => ?_
      obtain ⟨p, vs, rfl, hp, hv⟩ := own_tup o1
      have hv' : Owns X.K cl W H1 vs xs [] := (hv.shs hsh).weak fun a ha => List.mem_append_right _ ha
      refine ⟨p, vs, rfl, .inr ⟨hp, ?_⟩⟩
      refine k (ItvT X.K p vs.length) H1 (fun H => SqT X.K H p vs) _ s1 (by rw [List.length_reverse, ← hv.length]; exact walk_revT) (fun W2 H2 kp => kp.sqt hp) fun i x H2 H3 W2 d kp y hd => ?_
      obtain ⟨rfl, hx⟩ := y
      obtain ⟨hi, hd'⟩ := rv (n := 0) hv.length hd
      obtain ⟨w, Gw, g1, g2, g3⟩ := hv'.get hd'
      have : Gw = [] := List.eq_nil_iff_forall_not_mem.mpr fun a ha => nomatch g3 a ha
      subst this
      rw [hv.length, g1] at hx
      cases hx
      exact ⟨Same.refl _, g2.keep kp⟩
    · cases q1
  · cases q1⟩
end
end Tg

namespace Tg
open PySem PySem.Spec L2 RT RZ
/-! ### frozen from then on; lent for a statement; forgotten -/
def sFzA (i : Nat) (s : SS) : SS := fun env => match s env with
  | some (.nx e) => match e[i]? with
    | some d => some (.nx (e.set i d.fz))
    | none => some (.nx e)
  | r => r
def clrD (is : List Nat) (env : Env) : Env := wipD env is
def sClrA (is : List Nat) (s : SS) : SS := fun env => match s env with
  | some (.nx e) => some (.nx (clrD is e))
  | some (.ct e) => some (.ct (clrD is e))
  | r => r
/-- behind a statement for which slot j was lent; ks: the slots that it does not store -/
def back1 (j : Nat) (d : D) (ks : List Nat) (env0 : Env) : Nat → Env → Env
  | _, [] => []
  | n, x :: r => (if n = j then d else if n ∈ ks ∧ (env0.getD n .hole).sh = true then env0.getD n .hole else if x.nf then x else .hole) :: back1 j d ks env0 (n + 1) r
def sLend (j : Nat) (ks : List Nat) (s : SS) : SS := fun env => match env[j]? with
  | some d => match s (env.set j d.fz) with
    | some (.nx e) => some (.nx (back1 j d ks env 0 e))
    | some (.bk e) => some (.bk (back1 j d ks env 0 e))
    | some (.ct e) => some (.ct (back1 j d ks env 0 e))
    | some (.rt r e) => if r.nf then some (.rt r (back1 j d ks env 0 e)) else some (.rt r e)
    | none => none
  | none => none
section
variable {X : Cx} {cl : Nat → Addr} {io : List Nat} {a b c e tg : Expr} {f g h : EE} {pos apos : Pos} {i j : Nat} {p : EP1} {t0 : TgT} {m : EM} {st : Stmt} {s : SS}
theorem sm_fzA (h1 : Sm X cl io st s) : Sm X cl io st (sFzA i s) := ⟨fun R F env fl q σ H E D k => by
  unfold sFzA at q
  cases e1 : s env with
  | none => rw [e1] at q; cases q
  | some fl1 =>
    rw [e1] at q
    cases fl1 with
    | nx e' =>
      have q' : (match e'[i]? with
        | some d => some (Fl.nx (e'.set i d.fz))
        | none => some (.nx e')) = some fl := q
      cases hd : e'[i]? with
      | none =>
        rw [hd] at q'
        cases q'
        exact h1.run R F env _ e1 σ H E D k
      | some d =>
        rw [hd] at q'
        cases q'
        refine h1.run R F env _ e1 σ H E D fun σ' H' F' er fr pn => ?_
        obtain ⟨F'', E', sub⟩ := er.fz hd
        exact k σ' H' F'' E' (fr.mono fun a ha => .inl (sub a ha)) pn
    | bk e' => cases q; exact h1.run R F env _ e1 σ H E D k
    | ct e' => cases q; exact h1.run R F env _ e1 σ H E D k
    | rt d e' => cases q; exact h1.run R F env _ e1 σ H E D k⟩
/-- a slot forgotten -/
theorem ER.forget {K : PySem.W.Frag} {R F : List Addr} {H : Hp} {σ : St} {env : Env} (E : ER K cl R F σ H env) (i : Nat) : ∃ F', ER K cl R F' σ H (env.set i .hole) ∧ ∀ a ∈ F', a ∈ F := by
  by_cases hi : i < env.length
  · obtain ⟨d0, hd0⟩ : ∃ d0, env[i]? = some d0 := ⟨_, List.getElem?_eq_getElem hi⟩
    obtain ⟨o1, G1, F1, F2, h1, h2, h3, h4⟩ := E.sl.zoom hd0
    have nd := E.nd
    rw [h2] at nd
    have sub : ∀ a ∈ F1 ++ F2, a ∈ F := fun a ha => by rw [h2]; simp only [List.mem_append] at ha ⊢; rcases ha with z | z <;> simp [z]
    have r := h4 (R ++ (F1 ++ F2)) H o1 .hole [] (Keep.re (K := K) fun a ha _ z => ha (by
      rcases List.mem_append.mp z with z | z
      · exact List.mem_append_left _ z
      · exact List.mem_append_right _ (sub a z))) (.inl ⟨rfl, rfl⟩)
    rw [set_self h1] at r
    have n1 := List.nodup_append.mp nd
    exact ⟨F1 ++ F2, ⟨r, List.nodup_append.mpr ⟨n1.1, (List.nodup_append.mp n1.2.1).2.1, fun a ha b hb => n1.2.2 a ha b (List.mem_append_right _ hb)⟩, fun a ha => E.ap a (sub a ha), E.vd⟩, sub⟩
  · rw [List.set_eq_of_length_le (by omega)]
    exact ⟨F, E, fun a ha => ha⟩
theorem ER.forgets {K : PySem.W.Frag} {R F : List Addr} {H : Hp} {σ : St} {env : Env} (E : ER K cl R F σ H env) : ∀ is : List Nat, ∃ F', ER K cl R F' σ H (clrD is env) ∧ ∀ a ∈ F', a ∈ F
  | [] => ⟨F, E, fun a ha => ha⟩
  | i :: is => by
    obtain ⟨F1, E1, s1⟩ := ER.forgets E is
    obtain ⟨F2, E2, s2⟩ := E1.forget i
    exact ⟨F2, E2, fun a ha => s1 a (s2 a ha)⟩
theorem sm_clrA {is : List Nat} (h1 : Sm X cl io st s) : Sm X cl io st (sClrA is s) := ⟨fun R F env fl q σ H E D k => by
  unfold sClrA at q
  cases e1 : s env with
  | none => rw [e1] at q; cases q
  | some fl1 =>
    rw [e1] at q
    cases fl1 with
    | nx e' =>
      cases q
      refine h1.run R F env _ e1 σ H E D fun σ' H' F' er fr pn => ?_
      obtain ⟨F'', E', sub⟩ := er.forgets is
      exact k σ' H' F'' E' (fr.mono fun a ha => .inl (sub a ha)) pn
    | ct e' =>
      cases q
      refine h1.run R F env _ e1 σ H E D fun σ' H' F' er fr pn => ?_
      obtain ⟨F'', E', sub⟩ := er.forgets is
      exact k σ' H' F'' E' (fr.mono fun a ha => .inl (sub a ha)) pn
    | bk e' => cases q; exact h1.run R F env _ e1 σ H E D k
    | rt d e' => cases q; exact h1.run R F env _ e1 σ H E D k⟩
end
/-! a block with the loop's own names forgotten at its end -/
def sClrB (is : List Nat) (s : SS) : SS := sClrA is s
theorem sb_clr {X : Cx} {cl : Nat → Addr} {io is : List Nat} {sts : List Stmt} {s : SS} (h1 : Sb X cl io sts s) : Sb X cl io sts (sClrB is s) := ⟨fun R F env fl q σ H E D k => by
  unfold sClrB sClrA at q
  cases e1 : s env with
  | none => rw [e1] at q; cases q
  | some fl1 =>
    rw [e1] at q
    cases fl1 with
    | nx e' =>
      cases q
      refine h1.run R F env _ e1 σ H E D fun σ' H' F' er fr pn => ?_
      obtain ⟨F'', E', sub⟩ := er.forgets is
      exact k σ' H' F'' E' (fr.mono fun a ha => .inl (sub a ha)) pn
    | ct e' =>
      cases q
      refine h1.run R F env _ e1 σ H E D fun σ' H' F' er fr pn => ?_
      obtain ⟨F'', E', sub⟩ := er.forgets is
      exact k σ' H' F'' E' (fr.mono fun a ha => .inl (sub a ha)) pn
    | bk e' => cases q; exact h1.run R F env _ e1 σ H E D k
    | rt d e' => cases q; exact h1.run R F env _ e1 σ H E D k⟩
/-! ### the defs of a law -/
/-- a def's body at level k + 1 from what it calls -/
structure Fd where
  np : Nat
  ns : Nat
  io : List Nat
  body : (Nat → List D → Option (D × List D)) → (Nat → List D → Option (D × List D)) → SS
def lv (T : Nat → Fd) : Nat → (Nat → List D → Option (D × List D)) × (Nat → List D → Option (D × List D))
  | 0 => (fun _ _ => none, fun _ _ => none)
  | k + 1 => (fun j ds => runFn (T j).np (T j).ns (T j).io ((T j).body (lv T k).1 (lv T k).2) ds, (lv T k).1)
def callAt (T : Nat → Fd) (k : Nat) : Nat → List D → Option (D × List D) := (lv T k).1
def mkAt (T : Nat → Fd) (k : Nat) : Nat → List D → Option (D × List D) := (lv T k).2
theorem callAt_succ (T : Nat → Fd) (k j : Nat) (ds : List D) : callAt T (k + 1) j ds = runFn (T j).np (T j).ns (T j).io ((T j).body (callAt T k) (mkAt T k)) ds := rfl
theorem mkAt_succ (T : Nat → Fd) (k : Nat) : mkAt T (k + 1) = callAt T k := rfl
theorem runFn_len {np ns : Nat} {io : List Nat} {body : SS} {ds : List D} {r : D × List D} (h : runFn np ns io body ds = some r) : ds.length = np := by
  unfold runFn at h
  split at h
  · assumption
  · cases h
theorem callAt_len {T : Nat → Fd} : ∀ {k j : Nat} {ds : List D} {r : D × List D}, callAt T k j ds = some r → ds.length = (T j).np
  | 0, _, _, _, h => nomatch (show (none : Option (D × List D)) = some _ from h)
  | k + 1, j, ds, r, h => runFn_len (show runFn _ _ _ _ ds = some r from h)
section
variable {P : Program} {w : World} {K : PySem.W.Frag} {mg : Str → Option Value} {base : Heap} {cl : Nat → Addr} {x qual : Str} {params : Arguments} {stmts : List Stmt} {scope : Scope} {dvs : List V} {kws : List (Str × V)} {f : Addr} {fd : FuncData}
/-- a def keeps what its body's function tells: pure, or one parameter is changed -/
theorem fn_ok {N ps : List Str} {k np : Nat} {io : List Nat} {body : SS} (F : FunD K x qual params stmts scope dvs kws f fd) (S : FnScope N ps scope) (hnp : ps.length = np) (hio : io = [] ∨ ∃ i, io = [i] ∧ i < np)
    (hb : ∀ (cdv : Value) (A : Around) (outer : List PySem.Env) (s : Shared) (H : Hp) (E : XK), Room k (A.deeper (PyProof.Rows.envOfC qual scope s.heap.objs.size f cdv)) → Sb (cxOf CX0 P w K mg base N qual scope f cdv A outer s H E).nox cl io stmts body) :
    FnOk P w K mg base CX0 (k + 1) f fd ps (spF K cl np io (runFn np N.length io body)) := by
  refine F.ok S (fun vs H Q E h => by rw [h.1, hnp]) (fun cdv A outer s H vs Q E hr h => ?_)
  obtain ⟨hl, R, F0, ds, r, fin, ow, nd, ap, vd, hs, k0⟩ := h
  have hX := hb cdv A outer s H E hr
  refine ⟨_, PSs.nox pb_w, ?_⟩
  unfold runFn at hs
  have hdl : ds.length = np := by rw [← ow.length, hl]
  rw [if_pos hdl] at hs
  have e0 : L2.start N vs = vs.map some ++ List.replicate (N.length - np) Option.none := by unfold L2.start; rw [hl]
  have er : ER K cl R F0 (L2.start N vs) H (ds ++ List.replicate (N.length - np) .hole) := ⟨by rw [e0]; exact sl_params _ ow, nd, ap, vd⟩
  -- what is told of the changed parameter at the end
  have fins : ∀ (G F' : List Addr) (σ' : L2.St) (H' : Hp) (e : Env) (d : D), Sl K cl (G ++ (R ++ F')) H' σ' e F' → F'.Nodup → (∀ a ∈ G, a ∉ F') → (∀ i ∈ io, i < e.length) → Pin io (L2.start N vs) σ' →
      ∃ F'', Fins K cl (G ++ (R ++ F'')) H' vs io (io.map fun i => e.getD i .hole) F'' ∧ F''.Nodup ∧ ∀ a ∈ F'', a ∈ F' := fun G F' σ' H' e d sl nd' gf hlt pn => by
    rcases hio with rfl | ⟨i, rfl, hi⟩
    · exact ⟨[], .nil, List.nodup_nil, fun _ z => nomatch z⟩
    · have hil := hlt i (by simp)
      obtain ⟨o, Gi, A1, B1, z1, z2, z3, _⟩ := sl.zoom (List.getElem?_eq_getElem hil)
      have hv : ∃ u, vs[i]? = some u := ⟨_, List.getElem?_eq_getElem (by rw [hl]; exact hi)⟩
      obtain ⟨u, hu⟩ := hv
      have e1 : σ'[i]? = some (some u) := by
        rw [pn i (by simp), e0, List.getElem?_append_left (by rw [List.length_map, hl]; exact hi), List.getElem?_map, hu]
        rfl
      rw [z1] at e1
      cases e1
      have sub : ∀ a ∈ Gi, a ∈ F' := fun a ha => by rw [z2]; simp [ha]
      have ndi : Gi.Nodup := by
        rw [z2] at nd'
        exact (List.nodup_append.mp (List.nodup_append.mp nd').2.1).1
      have eD : e.getD i .hole = e[i] := by simp [List.getD_eq_getElem?_getD, List.getElem?_eq_getElem hil]
      have og : Own K cl (G ++ (R ++ F')) H' u e[i] Gi := by
        rcases z3 with ⟨z3, rfl⟩ | ⟨w, ew, z3⟩
        · rw [z3]; exact .hole u
        · cases ew; exact z3
      refine ⟨Gi ++ [], ?_, by rw [List.append_nil]; exact ndi, fun a ha => sub a (by simpa using ha)⟩
      show Fins K cl (G ++ (R ++ (Gi ++ []))) H' vs [i] [e.getD i .hole] (Gi ++ [])
      rw [eD]
      exact .cons hu (og.weak fun a ha => by
        simp only [List.append_nil, List.mem_append] at ha ⊢
        rcases ha with z | z | z
        · exact .inl z
        · exact .inr (.inl z)
        · exact .inr (.inr (sub a z))) .nil
  split at hs
  · rename_i d e e1
    split at hs
    · rename_i hall
      cases hs
      refine hX.run R F0 _ _ e1 _ H er _ fun v σ' H' F' G ep o fr pn => ?_
      obtain ⟨F'', h1, h2, h3⟩ := fins G F' σ' H' e .non ep.sl ep.nd (fun a ha => (ep.gr a ha).2) (fun i hi => by
        rw [List.all_eq_true] at hall
        have := hall i hi
        simpa using this) pn
      refine k0 v H' F'' G (o.weak fun a ha => ?_) h1 (List.nodup_append.mpr ⟨ep.gn, h2, fun a ha b hb z => (ep.gr a ha).2 (by rw [z]; exact h3 b hb)⟩) (fun a ha => ?_) (fr.mono fun a ha => .inl ?_)
      · simp only [List.mem_append] at ha ⊢
        rcases ha with z | z | z
        · exact .inl z
        · exact .inr (.inl z)
        · exact .inr (.inr (h3 a z))
      · rcases List.mem_append.mp ha with z | z
        · exact (ep.gr a z).1
        · exact ep.ap a (h3 a z)
      · rcases List.mem_append.mp ha with z | z
        · exact List.mem_append_left _ z
        · exact List.mem_append_right _ (h3 a z)
    · cases hs
  · rename_i e e1
    split at hs
    · rename_i hall
      cases hs
      refine hX.run R F0 _ _ e1 _ H er _ fun σ' H' F' er' fr pn => ?_
      obtain ⟨F'', h1, h2, h3⟩ := fins [] F' σ' H' e .non (er'.sl.keep (Keep.re (K := K) fun a ha _ z => ha (by simpa using z))) er'.nd (fun _ z => nomatch z) (fun i hi => by
        rw [List.all_eq_true] at hall
        have := hall i hi
        simpa using this) pn
      exact k0 .non H' F'' [] .non h1 (by simpa using h2) (fun a ha => er'.ap a (h3 a (by simpa using ha))) (fr.mono fun a ha => .inl (h3 a (by simpa using ha)))
    · cases hs
  · cases hs
end
/-- nothing is promised at level 0 -/
theorem fn_zero {P : Program} {w : World} {K : PySem.W.Frag} {mg : Str → Option Value} {base : Heap} {cl : Nat → Addr} {k np : Nat} {io : List Nat} {f : Addr} {fd : FuncData} {ps : List Str} : FnOk P w K mg base CX0 k f fd ps (spF K cl np io fun _ => none) :=
  ⟨(fun vs H Q E h => by
    obtain ⟨_, R, F, ds, r, fin, _, _, _, _, hs, _⟩ := h
    exact nomatch hs), (fun A outer s H args us vs Q E _ _ _ _ h => by
    obtain ⟨_, R, F, ds, r, fin, _, _, _, _, hs, _⟩ := h
    exact nomatch hs)⟩
end Tg

namespace Tg
open PySem PySem.Spec L2 RT RZ
section
variable {X : Cx} {cl : Nat → Addr} {io : List Nat} {elt tg iter : Expr} {ifs : List Expr} {scope : Scope} {own : List (Str × Nat)} {pos spos py : Pos} {f : EE}
/-- name = [.. for ..] -/
theorem sm_lc (i : Nat) {y : Str} (h : Lc X cl elt tg iter ifs scope (own.map (·.2)) f) (hN : X.N.Nodup) (ok : blkC X.N X.env.scope scope own = true) (hsw : swapsWith (.ListComp elt [⟨tg, iter, ifs, 0⟩] scope pos) (some (.Name y py)) spos.line X.env = pure true)
    (hy : X.N[i]? = some y := by rfl) (hyl : X.env.scope.names.lookup y = some .local := by rfl) (hio : i ∉ io := by decide) (hc : X.calm = true := by rfl) (hs : ∀ x, foldedSetIterable iter X.env x = pure x := by intro _; rfl) :
    Sm X cl io (.Assign [.Name y py] (.ListComp elt [⟨tg, iter, ifs, 0⟩] scope pos) spos) (sAsg f (tgN i)) := ⟨fun R F env fl q σ H E D k => by
  unfold sAsg at q
  obtain ⟨d, e1, q1⟩ := bind1 q
  unfold tgN at q1
  split at q1
  rotate_left
  · cases q1
  rename_i hl
  cases q1
  obtain ⟨wi, hw, ht⟩ := h.run _ env d e1 σ H E.ev E.vd' (fun x H1 => gName i x σ H1 D.nx) fun v H' G s1 o1 n1 f1 => by
    obtain ⟨F', E', fr⟩ := E.set hl s1 o1 n1 f1
    exact k _ H' F' E' fr (Pin.set hio)
  exact wS.of (ps_setLc (i := i) hc hN hy hyl hsw hw (blkOk_by ok) pga pqa pea hs) ht⟩
end
end Tg

namespace Tg
open PySem PySem.Spec L2 RT RZ
/-! ### calls, by what is read of the arguments -/
structure AR (X : Cx) (cl : Nat → Addr) (t : St → Hp → (List V → Hp → Prop) → Prop) (fs : EA) : Prop where
  run : ∀ (W : List Addr) (env : Env) (ds : List D), fs env = some ds → ∀ (σ : St) (H : Hp), EV X.K cl W H σ env → VD W H → ∀ Q : List V → Hp → Prop,
    (∀ vs H' F, Same H H' → Owns X.K cl (F ++ W) H' vs ds F → F.Nodup → (∀ a ∈ F, H a = none) → Q vs H') → t σ H Q
/-- a def that is called so: its promise, how its arguments come to it -/
structure CB (P : Program) (w : World) (K : PySem.W.Frag) (mg : Str → Option Value) (base : Heap) (cl : Nat → Addr) (k : Nat) (at_ : Addr → Prop) (sem : List D → Option (D × List D)) (io : List Nat) (np : Nat) (dfl : List D) : Prop where
  ex : ∃ f0 fd ps dvs ds, FnOk P w K mg base CX0 k f0 fd ps (spF K cl np io sem) ∧ at_ f0 ∧ Binds K fd ps ds ∧ Vals dvs ds ∧ ∀ W H, Owns K cl W H dvs dfl []
  len : ∀ ds r, sem ds = some r → ds.length = np
theorem CF.cb {P : Program} {w : World} {K : PySem.W.Frag} {mg : Str → Option Value} {base : Heap} {cl : Nat → Addr} {k np : Nat} {x : Str} {sem : List D → Option (D × List D)} {io : List Nat} {dfl : List D} (C : CF P w K mg base cl k x sem io np dfl) :
    CB P w K mg base cl k (fun f => mg x = some (.ref f) ∧ PySem.W.keepIn K (.ref f) = true) sem io np dfl := by
  obtain ⟨f0, fd, ps, dvs, ds, h1, h2, h3, h4, h5, h6⟩ := C.ex
  exact ⟨⟨f0, fd, ps, dvs, ds, h1, ⟨h2, h3⟩, h4, h5, h6⟩, C.len⟩
section
variable {X : Cx} {cl : Nat → Addr} {a b c e : Expr} {f g h : EE} {pos : Pos}
theorem callA_run {k np : Nat} {at_ : Addr → Prop} {sem : List D → Option (D × List D)} {dfl : List D} {t : St → Hp → (List V → Hp → Prop) → Prop} {fs : EA} (C : CB X.prog X.w X.K X.mg X.base cl k at_ sem [] np dfl) (ha : AR X cl t fs)
    (hp : ∀ sp dvs, (∃ f0 fd ps ds, FnOk X.prog X.w X.K X.mg X.base CX0 k f0 fd ps sp ∧ at_ f0 ∧ Binds X.K fd ps ds ∧ Vals dvs ds) → PE X e (fun σ H Q => t σ H fun vs H1 => sp (vs ++ dvs) H1 Q E0)) : Se X cl e (eCallP sem dfl fs) := ⟨fun W env d q σ H E V Q kq => by
  obtain ⟨f0, fd, ps, dvs, dsv, F, hat, hb, hd, hdf⟩ := C.ex
  have hpe := hp _ dvs ⟨f0, fd, ps, dsv, F, hat, hb, hd⟩
  refine wE.of hpe ?_
  unfold eCallP at q
  split at q
  · rename_i ds e1
    cases e2 : sem (D.fzs ds ++ dfl) with
    | none => rw [e2] at q; cases q
    | some rf =>
      rw [e2] at q
      cases q
      refine ha.run W env ds e1 σ H E V _ fun vs H1 G s1 o1 n1 f1 => ?_
      have o2 : Owns X.K cl (W ++ []) H1 (vs ++ dvs) (D.fzs ds ++ dfl) [] := by
        rw [List.append_nil]
        exact Owns.append (F := []) (G := []) (Owns.fz W o1 (fun a _ ha z => ha (List.mem_append_right _ z)) fun a ha z => V a z (f1 a ha)) (hdf W H1)
      refine ⟨by rw [o2.length, C.len _ _ e2], W, [], _, rf.1, rf.2, o2, List.nodup_nil, (fun _ z => nomatch z), V.mono s1, e2, fun v H2 F' G' ow fi nd ap fr => ?_⟩
      cases fins0 fi
      have s2 : Same H1 H2 := fun a o h => fr.keep a o h (by simp)
      rw [List.append_nil] at nd ow
      exact kq v H2 G' (s1.trans s2) ow nd fun a ha => Same.back s1 ((fr.new a (by simpa using ha)).elim (fun z => nomatch z) id)
  · split at q
    · rename_i ds e1
      obtain ⟨rf, e2, q1⟩ := bind1 q
      split at q1
      · rename_i hnf
        cases q1
        refine ha.run [] (frz env) ds e1 σ H E.frz (fun _ z => nomatch z) _ fun vs H1 G s1 o1 n1 f1 => ?_
        have o2 : Owns X.K cl ([] ++ []) H1 (vs ++ dvs) (D.fzs ds ++ dfl) [] := Owns.append (F := []) (G := []) (Owns.fz [] o1 (fun a _ ha z => nomatch z) fun a ha z => nomatch z) (hdf [] H1)
        refine ⟨by rw [o2.length, C.len _ _ e2], [], [], _, rf.1, rf.2, o2, List.nodup_nil, (fun _ z => nomatch z), (fun _ z => nomatch z), e2, fun v H2 F' G' ow fi nd ap fr => ?_⟩
        cases fins0 fi
        have s2 : Same H1 H2 := fun a o h => fr.keep a o h (by simp)
        rw [List.append_nil] at nd
        exact kq v H2 G' (s1.trans s2) (ow.nf _ hnf) nd fun a ha => Same.back s1 ((fr.new a (by simpa using ha)).elim (fun z => nomatch z) id)
      · cases q1
    · cases q⟩
/-! ### methods -/
/-- an object of the class c, whose own field m is not -/
def eObj (c : Nat) (m : Str) (f : EE) : EE := fun env => (f env).bind fun d => match d with
  | .obj o c' fs => if c = c' ∧ lookF m fs = none then some (.obj o c' fs) else none
  | _ => none
theorem lookF_none {m : Str} : ∀ {fs : List (Str × V)} {ds : List (Str × D)}, fs.map (·.1) = ds.map (·.1) → lookF m ds = none → fs.lookup m = none
  | [], [], _, _ => rfl
  | [], _ :: _, h, _ => by simp at h
  | _ :: _, [], h, _ => by simp at h
  | (g, v) :: fs, (g', e) :: ds, h, h2 => by
    have hh : g = g' ∧ fs.map (·.1) = ds.map (·.1) := by simpa using h
    obtain ⟨rfl, hr⟩ := hh
    unfold lookF at h2
    by_cases hf : m = g
    · rw [if_pos hf] at h2; cases h2
    · rw [if_neg hf] at h2
      rw [List.lookup_cons, show (m == g) = false by simpa using hf]
      exact lookF_none hr h2
abbrev tMa (X : Cx) (C : Addr) (m : Str) (o : Expr) (es : List Expr) : St → Hp → (List V → Hp → Prop) → Prop := fun σ H Q => wE X o σ H fun x H1 => ∃ a dx fs, x = .ref a ∧ H1 a = some (.ins C dx fs) ∧ fs.lookup m = none ∧ wA X es σ H1 fun vs H2 => Q (x :: vs) H2
theorem ar_meth {cc : Nat} {m : Str} {es : List Expr} {fs : EA} (ho : Se X cl a f) (h2 : Sa X cl es fs) : AR X cl (tMa X (cl cc) m a es) (eCons (eObj cc m f) fs) := ⟨fun W env ds q σ H E V Q k => by
  unfold eCons at q
  obtain ⟨d, e1, q1⟩ := bind1 q
  obtain ⟨dr, e2, q2⟩ := bind1 q1
  cases q2
  unfold eObj at e1
  obtain ⟨d0, e0, e1⟩ := bind1 e1
  split at e1
  · rename_i ob c' fds
    split at e1
    · rename_i hh
      obtain ⟨rfl, hm⟩ := hh
      cases e1
      refine ho.run W env _ e0 σ H E V _ fun v H1 F s1 o1 n1 f1 => ?_
      have key : ∃ a dx vfs, v = .ref a ∧ H1 a = some (.ins (cl cc) dx vfs) ∧ vfs.lookup m = none := by
        cases o1 with
        | objO h en hs => exact ⟨_, _, _, rfl, h, lookF_none en hm⟩
        | objF h hn en hs => exact ⟨_, _, _, rfl, h, lookF_none en hm⟩
      obtain ⟨a', dx, vfs, rfl, h3, h4⟩ := key
      refine ⟨a', dx, vfs, rfl, h3, h4, ?_⟩
      have V1 : VD (F ++ W) H1 := fun a ha => (List.mem_append.mp ha).elim (o1.tracked a) (V.mono s1 a)
      refine h2.run (F ++ W) env dr e2 σ H1 ((E.grow fun a ha => (List.mem_append.mp ha).elim (fun z => .inr (f1 a z)) .inl).mono s1) V1 _ fun vs H2 G s2 o2 n2 f2 => ?_
      refine k (.ref a' :: vs) H2 (F ++ G) (s1.trans s2) (.cons (o1.growS s2 fun a ha => ?_) (o2.weak fun a ha => ?_)) (fresh_join s1 n1 n2 o1.tracked f2) fun a ha => ?_
      · rcases List.mem_append.mp ha with ha | ha
        · rcases List.mem_append.mp ha with ha | ha
          · exact .inl (List.mem_append_left _ ha)
          · exact .inr (f2 a ha)
        · exact .inl (List.mem_append_right _ ha)
      · rcases List.mem_append.mp ha with ha | ha
        · rcases List.mem_append.mp ha with ha | ha
          · exact List.mem_append_right _ (List.mem_append_left _ ha)
          · exact List.mem_append_left _ ha
        · exact List.mem_append_right _ (List.mem_append_right _ ha)
      · rcases List.mem_append.mp ha with ha | ha
        · exact f1 a ha
        · exact Same.back s1 (f2 a ha)
    · cases e1
  · cases e1⟩
/-- o.m(..), nothing changed -/
theorem se_methP {k np cc : Nat} {m : Str} {sem : List D → Option (D × List D)} {dfl : List D} {apos : Pos} {pl : Sem Bool} {es : List Expr} {fs : EA} (C : CB X.prog X.w X.K X.mg X.base cl k (Meth X.K (cl cc) m) sem [] np dfl) (c : Cls X.K (cl cc)) (hr : Room k X.A) (ho : Se X cl a f) (h2 : Sa X cl (e :: es) fs)
    (hst : starEach (e :: es) X.env = (false, eval e X.env) :: starEach es X.env := by rfl) (hpl : (backTo pos (starEach es X.env)).any (·.1) = false := by rfl)
    (ht : eval (.Call (.Attribute a m apos) (e :: es) [] pos) X.env = (do
      let ov ← eval a X.env
      standAt apos.atName
      let (f, first) ← holding [ov] (getMethod ov m pl)
      callWith pos f first (backTo pos (starEach (e :: es) X.env)) (backToKw pos (keywordEach [] X.env))) := by rfl) : Se X cl (.Call (.Attribute a m apos) (e :: es) [] pos) (eCallP sem dfl (eCons (eObj cc m f) fs)) :=
  callA_run C (ar_meth ho h2) fun sp dvs h => by
    obtain ⟨f0, fd, ps, ds, F, hm, hb, hd⟩ := h
    exact pe_meth pe_w c hm F hr hb hd pass0 pa_w hst hpl ht
abbrev tMa0 (X : Cx) (C : Addr) (m : Str) (o : Expr) : St → Hp → (List V → Hp → Prop) → Prop := fun σ H Q => wE X o σ H fun x H1 => ∃ a dx fs, x = .ref a ∧ H1 a = some (.ins C dx fs) ∧ fs.lookup m = none ∧ Q [x] H1
theorem ar_meth0 {cc : Nat} {m : Str} (ho : Se X cl a f) : AR X cl (tMa0 X (cl cc) m a) (eCons (eObj cc m f) eNil) := ⟨fun W env ds q σ H E V Q k => by
  unfold eCons at q
  obtain ⟨d, e1, q1⟩ := bind1 q
  obtain ⟨dr, e2, q2⟩ := bind1 q1
  cases q2
  cases e2
  unfold eObj at e1
  obtain ⟨d0, e0, e1⟩ := bind1 e1
  split at e1
  · rename_i ob c' fds
    split at e1
    · rename_i hh
      obtain ⟨rfl, hm⟩ := hh
      cases e1
      refine ho.run W env _ e0 σ H E V _ fun v H1 F s1 o1 n1 f1 => ?_
      have key : ∃ a dx vfs, v = .ref a ∧ H1 a = some (.ins (cl cc) dx vfs) ∧ vfs.lookup m = none := by
        cases o1 with
        | objO h en hs => exact ⟨_, _, _, rfl, h, lookF_none en hm⟩
        | objF h hn en hs => exact ⟨_, _, _, rfl, h, lookF_none en hm⟩
      obtain ⟨a', dx, vfs, rfl, h3, h4⟩ := key
      refine ⟨a', dx, vfs, rfl, h3, h4, ?_⟩
      exact k [.ref a'] H1 (F ++ []) s1 (by rw [List.append_nil]; exact Owns.cons (G := []) o1 .nil |> fun z => by simpa using z) (by simpa using n1) fun a ha => f1 a (by simpa using ha)
    · cases e1
  · cases e1⟩
theorem se_methP0 {k np cc : Nat} {m : Str} {sem : List D → Option (D × List D)} {dfl : List D} {apos : Pos} {pl : Sem Bool} (C : CB X.prog X.w X.K X.mg X.base cl k (Meth X.K (cl cc) m) sem [] np dfl) (c : Cls X.K (cl cc)) (hr : Room k X.A) (ho : Se X cl a f)
    (ht : eval (.Call (.Attribute a m apos) [] [] pos) X.env = (do
      let ov ← eval a X.env
      standAt apos.atName
      let (f, first) ← holding [ov] (getMethod ov m pl)
      callWith pos f first (backTo pos (starEach [] X.env)) (backToKw pos (keywordEach [] X.env))) := by rfl) : Se X cl (.Call (.Attribute a m apos) [] [] pos) (eCallP sem dfl (eCons (eObj cc m f) eNil)) :=
  callA_run C (ar_meth0 ho) fun sp dvs h => by
    obtain ⟨f0, fd, ps, ds, F, hm, hb, hd⟩ := h
    exact pe_meth0 pe_w c hm F hr hb hd pass0 ht
end
/-! ### calls that change one argument -/
/-- the arguments, one of which is a path -/
structure AQ (X : Cx) (cl : Nat → Addr) (t : St → Hp → (List V → Hp → Prop) → Prop) (i : Nat) (p : EP1) (q : Nat) (cm : Option (Nat × Str)) (fs : EA) : Prop where
  run : ∀ (W1 : List Addr) (env1 : Env) (W2 : List Addr) (env2 : Env) (l : List St1) (ds : List D), p env1 = some l → fs env2 = some ds → ∀ (σ : St) (H : Hp), EV X.K cl W1 H σ env1 → VD W1 H → EV X.K cl W2 H σ env2 → VD W2 H →
    ∀ v u, σ[i]? = some (some v) → Nd X.K cl H v l u → (∀ c m, cm = some (c, m) → ∃ a dx vfs, u = .ref a ∧ H a = some (.ins (cl c) dx vfs) ∧ vfs.lookup m = none) → ∀ Q : List V → Hp → Prop,
    (∀ vs H' F, Same H H' → Owns X.K cl (F ++ W2) H' vs ds F → F.Nodup → (∀ a ∈ F, H a = none) → q ≤ vs.length → Q (vs.insertIdx q u) H') → t σ H Q
section
variable {X : Cx} {cl : Nat → Addr} {a b c e : Expr} {f g h : EE} {pos apos : Pos} {es : List Expr} {fs : EA} {i q : Nat} {p : EP1}
theorem aq_here (hp : Pt X cl a i p) (h2 : Sa X cl es fs) (hs : starEach (a :: es) X.env = (false, eval a X.env) :: starEach es X.env := by rfl) : AQ X cl (wA X (a :: es)) i p 0 none fs := ⟨fun W1 env1 W2 env2 l ds q1 q2 σ H E1 V1 E2 V2 v u hσ hn _ Q k => by
  refine wA.of (pa_cons pe_w pa_w hs) ?_
  refine hp.run W1 env1 l q1 σ H E1 V1 v u hσ hn _ fun H1 s1 => ?_
  refine h2.run W2 env2 ds q2 σ H1 (E2.mono s1) (V2.mono s1) _ fun vs H2 F s2 o2 n2 f2 => ?_
  exact k vs H2 F (s1.trans s2) o2 n2 (fun x hx => Same.back s1 (f2 x hx)) (Nat.zero_le _)⟩
theorem aq_next (h1 : Se X cl e f) (h2 : AQ X cl (wA X es) i p q none fs) (hs : starEach (e :: es) X.env = (false, eval e X.env) :: starEach es X.env := by rfl) : AQ X cl (wA X (e :: es)) i p (q + 1) none (eCons f fs) := ⟨fun W1 env1 W2 env2 l ds q1 q2 σ H E1 V1 E2 V2 v u hσ hn hcm Q k => by
  unfold eCons at q2
  obtain ⟨d, e1, q3⟩ := bind1 q2
  obtain ⟨dr, e2, q4⟩ := bind1 q3
  cases q4
  refine wA.of (pa_cons pe_w pa_w hs) ?_
  refine h1.run W2 env2 d e1 σ H E2 V2 _ fun v0 H1 F s1 o1 n1 f1 => ?_
  have V3 : VD (F ++ W2) H1 := fun a ha => (List.mem_append.mp ha).elim (o1.tracked a) (V2.mono s1 a)
  refine h2.run W1 env1 (F ++ W2) env2 l dr q1 e2 σ H1 (E1.mono s1) (V1.mono s1) ((E2.grow fun a ha => (List.mem_append.mp ha).elim (fun z => .inr (f1 a z)) .inl).mono s1) V3 v u hσ (hn.mono s1) (fun c m z => nomatch z) _ fun vs H2 G s2 o2 n2 f2 hq => ?_
  refine k (v0 :: vs) H2 (F ++ G) (s1.trans s2) (.cons (o1.growS s2 fun a ha => ?_) (o2.weak fun a ha => ?_)) (fresh_join s1 n1 n2 o1.tracked f2) (fun a ha => ?_) (Nat.succ_le_succ hq)
  · rcases List.mem_append.mp ha with ha | ha
    · rcases List.mem_append.mp ha with ha | ha
      · exact .inl (List.mem_append_left _ ha)
      · exact .inr (f2 a ha)
    · exact .inl (List.mem_append_right _ ha)
  · rcases List.mem_append.mp ha with ha | ha
    · rcases List.mem_append.mp ha with ha | ha
      · exact List.mem_append_right _ (List.mem_append_left _ ha)
      · exact List.mem_append_left _ ha
    · exact List.mem_append_right _ (List.mem_append_right _ ha)
  · rcases List.mem_append.mp ha with ha | ha
    · exact f1 a ha
    · exact Same.back s1 (f2 a ha)⟩
theorem aq_meth {cc : Nat} {m : Str} (hp : Pt X cl a i p) (h2 : Sa X cl es fs) : AQ X cl (tMa X (cl cc) m a es) i p 0 (some (cc, m)) fs := ⟨fun W1 env1 W2 env2 l ds q1 q2 σ H E1 V1 E2 V2 v u hσ hn hcm Q k => by
  obtain ⟨a', dx, vfs, rfl, h3, h4⟩ := hcm cc m rfl
  refine hp.run W1 env1 l q1 σ H E1 V1 v _ hσ hn _ fun H1 s1 => ⟨a', dx, vfs, rfl, s1 _ _ h3, h4, ?_⟩
  refine h2.run W2 env2 ds q2 σ H1 (E2.mono s1) (V2.mono s1) _ fun vs H2 F s2 o2 n2 f2 => ?_
  exact k vs H2 F (s1.trans s2) o2 n2 (fun x hx => Same.back s1 (f2 x hx)) (Nat.zero_le _)⟩
theorem aq_meth0 {cc : Nat} {m : Str} (hp : Pt X cl a i p) : AQ X cl (tMa0 X (cl cc) m a) i p 0 (some (cc, m)) eNil := ⟨fun W1 env1 W2 env2 l ds q1 q2 σ H E1 V1 E2 V2 v u hσ hn hcm Q k => by
  obtain ⟨a', dx, vfs, rfl, h3, h4⟩ := hcm cc m rfl
  refine hp.run W1 env1 l q1 σ H E1 V1 v _ hσ hn _ fun H1 s1 => ⟨a', dx, vfs, rfl, s1 _ _ h3, h4, ?_⟩
  cases q2
  exact k [] H1 [] s1 .nil List.nodup_nil (fun _ z => nomatch z) (Nat.zero_le _)⟩
end
def isObj (cm : Option (Nat × Str)) (n : D) : Bool := match cm with
  | none => true
  | some (c, m) => match n with
    | .obj _ c' fs => decide (c = c') && (lookF m fs).isNone
    | _ => false
def mIO (sem : List D → Option (D × List D)) (dfl : List D) (i : Nat) (p : EP1) (q : Nat) (cm : Option (Nat × Str)) (fs : EA) : EM := fun env => (p env).bind fun l => (getAt i l env).bind fun n =>
  if n.sh || !isObj cm n then none else match fs env with
    | some ds => (sem ((D.fzs ds).insertIdx q n ++ dfl)).bind fun r => match r.2 with
      | [n'] => some (r.1, setAt i l n' env)
      | _ => none
    | none => (fs ((frz env).set i .hole)).bind fun ds => (sem ((D.fzs ds).insertIdx q n ++ dfl)).bind fun r => match r.2 with
      | [n'] => if r.1.nf && n'.nf then some (r.1, setAt i l n' env) else none
      | _ => none
theorem Owns.ins {K : PySem.W.Frag} {cl : Nat → Addr} {W : List Addr} {H : Hp} {u : V} {n : D} {G : List Addr} (o : Own K cl W H u n G) : ∀ {q : Nat} {vs : List V} {ds : List D}, q ≤ vs.length → Owns K cl W H vs ds [] → Owns K cl W H (vs.insertIdx q u) (ds.insertIdx q n) G
  | 0, vs, ds, _, h => by
    have := Owns.cons o h
    rw [List.append_nil] at this
    exact this
  | q + 1, [], _, hq, _ => by simp at hq
  | q + 1, v :: vs, [], _, h => by
    have := h.length
    simp at this
  | q + 1, v :: vs, d :: ds, hq, h => by
    obtain ⟨v', r, e, h1, h2⟩ := owns_cons0 h
    cases e
    exact Owns.cons (F := []) h1 (Owns.ins o (by simpa using hq) h2)
section
variable {K : PySem.W.Frag} {cl : Nat → Addr} {R F : List Addr} {H : Hp} {σ : St} {env : Env}
theorem Sl.fzW {W W' : List Addr} (sl : Sl K cl W H σ env F) (h : ∀ a, H a ≠ none → a ∉ W → a ∉ W') (f : ∀ a ∈ F, a ∉ W') : EV K cl W' H σ (frz env) := ⟨by rw [sl.len]; unfold Tg.frz; rw [List.length_map], fun i d h1 h2 => by
  unfold Tg.frz at h1
  rw [List.getElem?_map] at h1
  cases hh : env[i]? with
  | none => rw [hh] at h1; cases h1
  | some d0 =>
    rw [hh] at h1
    cases h1
    obtain ⟨o, G, A, B, g1, g2, g3, _⟩ := sl.zoom hh
    rcases g3 with ⟨g3, _⟩ | ⟨v, rfl, g3⟩
    · exact absurd g3 (fz_hole h2)
    · exact ⟨v, [], g1, g3.fz W' h fun a ha => f a (by rw [g2]; simp [ha])⟩⟩
theorem frz_set (env : Env) (i : Nat) : frz (env.set i .hole) = (frz env).set i .hole := by unfold Tg.frz; rw [List.map_set]; rfl
/-- all but a slot lent, G what is changed -/
theorem ER.frzBut (E : ER K cl R F σ H env) {i : Nat} {d0 : D} (hd : env[i]? = some d0) {l : List St1} {n : D} (hg : getAt i l env = some n) (hs : n.sh = false) :
    ∃ v u G F1 F2, σ[i]? = some (some v) ∧ Nd K cl H v l u ∧ F = F1 ++ (G ++ F2) ∧ Own K cl (R ++ F) H u n G ∧ EV K cl (R ++ G) H σ ((frz env).set i .hole) ∧
      ∀ (W' : List Addr) (H' : Hp) (n' : D) (G' : List Addr), Keep (R ++ F) W' (F1 ++ F2) H H' → Own K cl W' H' u n' G' → Sl K cl W' H' σ (setAt i l n' env) (F1 ++ (G' ++ F2)) := by
  obtain ⟨o1, G0, A, B, h1, h2, h3, h4⟩ := E.sl.zoom hd
  have hg' := hg
  unfold getAt at hg'
  rw [hd] at hg'
  have hp : getP l d0 = some n := by cases d0 <;> first | exact hg' | cases hg'
  have hne : d0 ≠ .hole := fun z => by rw [z] at hg'; cases hg'
  rcases h3 with ⟨z, _⟩ | ⟨v, rfl, ov⟩
  · exact absurd z hne
  · obtain ⟨u, G, F1, F2, k1, k2, k3, k4⟩ := own_path l ov hp hs
    have nF := E.nd
    rw [h2] at nF
    have nA := List.nodup_append.mp nF
    have nG := List.nodup_append.mp nA.2.1
    have gsub : ∀ a ∈ G, a ∈ G0 := fun a ha => by rw [k2]; simp [ha]
    have hole := h4 (R ++ F) H (some v) .hole [] (Keep.re (K := K) fun a ha _ => ha) (.inl ⟨rfl, rfl⟩)
    rw [set_self h1] at hole
    have ev := hole.fzW (W' := R ++ G) (fun a _ ha z => ha (by
        rcases List.mem_append.mp z with z | z
        · exact List.mem_append_left _ z
        · exact List.mem_append_right _ (by rw [h2]; simp [gsub a z]))) (fun a ha z => by
      have haF : a ∈ F := by rw [h2]; simp only [List.nil_append, List.mem_append] at ha ⊢; rcases ha with y | y <;> simp [y]
      rcases List.mem_append.mp z with z | z
      · exact E.ap a haF z
      · simp only [List.nil_append, List.mem_append] at ha
        rcases ha with y | y
        · exact nA.2.2 a y a (List.mem_append_left _ (gsub a z)) rfl
        · exact nG.2.2 a (gsub a z) a y rfl)
    rw [frz_set] at ev
    refine ⟨v, u, G, A ++ F1, F2 ++ B, h1, k1, by rw [h2, k2]; simp, k3, ev, fun W' H' n' G' kp o' => ?_⟩
    have q1 := k4 W' H' n' G' ⟨fun b hb => kp.own b (by simp only [List.mem_append] at hb ⊢; rcases hb with z | z <;> simp [z]), kp.out, kp.tup, kp.frz, kp.fr⟩ o'
    have q2 := h4 W' H' (some v) _ _ ⟨fun b hb => kp.own b (by simp only [List.mem_append] at hb ⊢; rcases hb with z | z <;> simp [z]), kp.out, kp.tup, kp.frz, kp.fr⟩ (.inr ⟨v, rfl, q1⟩)
    rw [set_self h1] at q2
    have e3 : A ++ ((F1 ++ (G' ++ F2)) ++ B) = A ++ F1 ++ (G' ++ (F2 ++ B)) := by simp
    rw [e3] at q2
    unfold setAt
    rw [hd]
    exact q2
end
theorem insertIdx_get {α : Type} (x : α) : ∀ {q : Nat} {xs : List α} (ys : List α), q ≤ xs.length → (xs.insertIdx q x ++ ys)[q]? = some x
  | 0, xs, ys, _ => by simp
  | q + 1, [], ys, h => by simp at h
  | q + 1, y :: xs, ys, h => by
    have := insertIdx_get x (q := q) (xs := xs) ys (by simpa using h)
    simpa using this
section
variable {X : Cx} {cl : Nat → Addr} {a b c e : Expr} {pos : Pos} {fs : EA} {i q : Nat} {p : EP1}
theorem io_run {k np : Nat} {at_ : Addr → Prop} {sem : List D → Option (D × List D)} {dfl : List D} {cm : Option (Nat × Str)} {t : St → Hp → (List V → Hp → Prop) → Prop} (C : CB X.prog X.w X.K X.mg X.base cl k at_ sem [q] np dfl) (ha : AQ X cl t i p q cm fs)
    (hp : ∀ sp dvs, (∃ f0 fd ps ds, FnOk X.prog X.w X.K X.mg X.base CX0 k f0 fd ps sp ∧ at_ f0 ∧ Binds X.K fd ps ds ∧ Vals dvs ds) → PE X e (fun σ H Q => t σ H fun vs H1 => sp (vs ++ dvs) H1 Q E0)) : Sv X cl e (mIO sem dfl i p q cm fs) := ⟨fun R F env env' d qq σ H E Q kq => by
  obtain ⟨f0, fd, ps, dvs, dsv, FF, hat, hb, hd, hdf⟩ := C.ex
  have hpe := hp _ dvs ⟨f0, fd, ps, dsv, FF, hat, hb, hd⟩
  refine wE.of hpe ?_
  unfold mIO at qq
  obtain ⟨l, e1, q1⟩ := bind1 qq
  obtain ⟨n, e2, q2⟩ := bind1 q1
  split at q2
  · cases q2
  rename_i hcond
  have hsh : n.sh = false ∧ isObj cm n = true := by
    cases h1 : n.sh <;> cases h2 : isObj cm n <;> simp [h1, h2] at hcond ⊢
  obtain ⟨d0, hd0, _, _⟩ := getAt_some e2
  obtain ⟨v, u, G, F1, F2, h1, h2, h3, h4, hev, h5⟩ := E.frzBut hd0 e2 hsh.1
  have hcm : ∀ c m, cm = some (c, m) → ∃ a dx vfs, u = .ref a ∧ H a = some (.ins (cl c) dx vfs) ∧ vfs.lookup m = none := fun c m ec => by
    have ho := hsh.2
    rw [ec] at ho
    unfold isObj at ho
    cases n with
    | obj ob c' nfs =>
      have ho' : (decide (c = c') && (lookF m nfs).isNone) = true := ho
      rw [Bool.and_eq_true, decide_eq_true_eq, Option.isNone_iff_eq_none] at ho'
      obtain ⟨rfl, hm⟩ := ho'
      cases h4 with
      | objO h en hs => exact ⟨_, _, _, rfl, h, lookF_none en hm⟩
      | objF h hn en hs => exact ⟨_, _, _, rfl, h, lookF_none en hm⟩
    | _ => cases ho
  have nF := E.nd
  rw [h3] at nF
  have nF1 := List.nodup_append.mp nF
  have nF2 := List.nodup_append.mp nF1.2.1
  have gF : ∀ b ∈ G, b ∈ F := fun b hb => by rw [h3]; simp [hb]
  have oF : ∀ b ∈ F1 ++ F2, b ∈ F := fun b hb => by rw [h3]; simp only [List.mem_append] at hb ⊢; rcases hb with z | z <;> simp [z]
  have oG : ∀ b ∈ F1 ++ F2, b ∉ G := fun b hb z => by
    rcases List.mem_append.mp hb with y | y
    · exact nF1.2.2 b y b (List.mem_append_left _ z) rfl
    · exact nF2.2.2 b z b y rfl
  -- behind the arguments
  have core : ∀ (R' : List Addr) (vs : List V) (ds : List D) (H1 : Hp) (r : D × List D) (n' : D), Same H H1 → (∀ b ∈ R', b ∈ R ++ (F1 ++ F2)) → (∀ b ∈ R, b ∈ R') → Owns X.K cl (R' ++ G) H1 vs ds [] → q ≤ vs.length → sem (ds.insertIdx q n ++ dfl) = some r → r.2 = [n'] → r.1 = d → setAt i l n' env = env' →
      ((∀ b ∈ F1 ++ F2, b ∈ R') ∨ (d.nf = true ∧ n'.nf = true)) → spF X.K cl np [q] sem (vs.insertIdx q u ++ dvs) H1 Q E0 := by
    intro R' vs ds H1 r n' s1 hR1 hR2 o1 hq e3 er ed ee hcase
    have og : Own X.K cl (R' ++ G) H1 u n G := (h4.mono s1).weak fun b hb => by
      rcases List.mem_append.mp hb with z | z
      · rcases List.mem_append.mp (hR1 b z) with y | y
        · exact List.mem_append_left _ y
        · exact List.mem_append_right _ (oF b y)
      · exact List.mem_append_right _ (gF b z)
    have o2 : Owns X.K cl (R' ++ G) H1 (vs.insertIdx q u ++ dvs) (ds.insertIdx q n ++ dfl) G := by
      have := Owns.append (Owns.ins og hq o1) (hdf (R' ++ G) H1)
      rwa [List.append_nil] at this
    have hRd : VD R' H1 := fun b hb z => by
      rcases List.mem_append.mp (hR1 b hb) with y | y
      · exact E.vd b y (Same.back s1 z)
      · exact E.sl.tracked b (oF b y) (Same.back s1 z)
    have gR : ∀ b ∈ G, b ∉ R' := fun b hb z => by
      rcases List.mem_append.mp (hR1 b z) with y | y
      · exact E.ap b (gF b hb) y
      · exact oG b y hb
    refine ⟨by rw [o2.length, C.len _ _ e3], R', G, _, r.1, r.2, o2, nF2.1, gR, hRd, e3, fun w H2 F'' G'' ow fi nd ap fr => ?_⟩
    subst ed
    rw [er] at fi
    cases fi with
    | cons hi0 ofin rest =>
      rename_i u2 F0 G0
      have hG0 := fins0 rest
      subst hG0
      rw [insertIdx_get u dvs hq] at hi0
      cases hi0
      rw [List.append_nil] at ow ofin nd ap fr
      have nd' := List.nodup_append.mp nd
      have newd : ∀ b ∈ G'' ++ F0, b ∈ G ∨ H b = none := fun b hb => (fr.new b hb).elim .inl fun z => .inr (Same.back s1 z)
      have off : ∀ b, (b ∈ G ∨ H b = none) → b ∉ R ∧ b ∉ F1 ∧ b ∉ F2 := fun b hb => by
        rcases hb with z | z
        · exact ⟨E.ap b (gF b z), fun y => oG b (List.mem_append_left _ y) z, fun y => oG b (List.mem_append_right _ y) z⟩
        · exact ⟨fun y => E.vd b y z, fun y => E.sl.tracked b (oF b (List.mem_append_left _ y)) z, fun y => E.sl.tracked b (oF b (List.mem_append_right _ y)) z⟩
      have conv : ∀ (w : V) (dd : D) (Fx : List Addr), Own X.K cl (G'' ++ (R' ++ F0)) H2 w dd Fx → (dd = r.1 ∨ dd = n') → Own X.K cl (G'' ++ (R ++ (F1 ++ (F0 ++ F2)))) H2 w dd Fx := fun w dd Fx o hdd => by
        rcases hcase with hc | ⟨hc1, hc2⟩
        · refine o.weak fun b hb => ?_
          simp only [List.mem_append] at hb ⊢
          rcases hb with z | z | z | z | z
          · exact .inl z
          · exact .inr (.inl (hR2 b z))
          · exact .inr (.inl (hc b (List.mem_append_left _ z)))
          · exact .inr (.inr z)
          · exact .inr (.inl (hc b (List.mem_append_right _ z)))
        · rcases hdd with rfl | rfl
          · exact o.nf _ hc1
          · exact o.nf _ hc2
      have kp : Keep (R ++ F) (G'' ++ (R ++ (F1 ++ (F0 ++ F2)))) (F1 ++ F2) H H2 := by
        refine ⟨fun b hb o h => fr.keep b o (s1 _ _ h) (oG b hb), fun b o hb h => fr.keep b o (s1 _ _ h) fun z => hb (List.mem_append_right _ (gF b z)), fun b vs0 h => fr.tup b vs0 (s1 _ _ h), fun b o u0 h => fr.frz b o u0 (s1 _ _ h), fun b hb hn z => ?_⟩
        simp only [List.mem_append, not_or] at hb z
        rcases z with z | z | z | z | z
        · exact (newd b (List.mem_append_left _ z)).elim (fun y => hb.2 (gF b y)) hn
        · exact hb.1 z
        · exact hb.2 (oF b (List.mem_append_left _ z))
        · exact (newd b (List.mem_append_right _ z)).elim (fun y => hb.2 (gF b y)) hn
        · exact hb.2 (oF b (List.mem_append_right _ z))
      have sl := h5 _ H2 n' F0 kp (conv u n' F0 ofin (.inr rfl))
      rw [ee] at sl
      refine kq w H2 (F1 ++ (F0 ++ F2)) G'' ⟨sl, nodup_mid nF nd'.2.1 fun x hx => ?_, fun b hb => ?_, fun b hb z => ?_, nd'.1, fun b hb => ⟨(off b (newd b (List.mem_append_left _ hb))).1, fun z => ?_⟩, fun b hb => ow.tracked b hb⟩ (conv w r.1 G'' ow (.inl rfl)) ⟨fun b o h hb => fr.keep b o (s1 _ _ h) fun z => hb (gF b z), fun b vs0 h => fr.tup b vs0 (s1 _ _ h), fun b o u0 h => fr.frz b o u0 (s1 _ _ h), fun b h => Same.back s1 (fr.back b h), fun b hb => ?_⟩
      · rcases newd x (List.mem_append_right _ hx) with z | z
        · exact .inl z
        · exact .inr ⟨(off x (.inr z)).2.1, (off x (.inr z)).2.2⟩
      · simp only [List.mem_append] at hb
        rcases hb with z | z | z
        · exact E.ap b (oF b (List.mem_append_left _ z))
        · exact (off b (newd b (List.mem_append_right _ z))).1
        · exact E.ap b (oF b (List.mem_append_right _ z))
      · exact E.vd b hb (Same.back s1 (fr.back b z))
      · simp only [List.mem_append] at z
        rcases z with z | z | z
        · exact (off b (newd b (List.mem_append_left _ hb))).2.1 z
        · exact nd'.2.2 b hb b z rfl
        · exact (off b (newd b (List.mem_append_left _ hb))).2.2 z
      · simp only [List.mem_append] at hb
        rcases hb with z | z | z | z
        · exact (newd b (List.mem_append_left _ z)).elim (fun y => .inl (gF b y)) .inr
        · exact .inl (oF b (List.mem_append_left _ z))
        · exact (newd b (List.mem_append_right _ z)).elim (fun y => .inl (gF b y)) .inr
        · exact .inl (oF b (List.mem_append_right _ z))
  split at q2
  · rename_i ds e3
    obtain ⟨r, e4, q3⟩ := bind1 q2
    split at q3
    · rename_i n' er
      cases q3
      refine ha.run (R ++ F) env (R ++ F) env l ds e1 e3 σ H E.ev E.vd' E.ev E.vd' v u h1 h2 hcm _ fun vs H1 Fn s1 o1 n1 f1 hq => ?_
      refine core (R ++ (F1 ++ F2)) vs (D.fzs ds) H1 r n' s1 (fun b hb => hb) (fun b hb => List.mem_append_left _ hb) (Owns.fz _ o1 (fun b _ hb z => hb ?_) fun b hb z => ?_) hq e4 er rfl rfl (.inl fun b hb => List.mem_append_right _ hb)
      · rw [h3]
        simp only [List.mem_append] at z ⊢
        rcases z with (z | z | z) | z <;> simp [z]
      · simp only [List.mem_append] at z
        have hn := f1 b hb
        rcases z with (z | z | z) | z
        · exact E.vd b z hn
        · exact E.sl.tracked b (oF b (List.mem_append_left _ z)) hn
        · exact E.sl.tracked b (oF b (List.mem_append_right _ z)) hn
        · exact E.sl.tracked b (gF b z) hn
    · cases q3
  · obtain ⟨ds, e3, q3⟩ := bind1 q2
    obtain ⟨r, e4, q4⟩ := bind1 q3
    split at q4
    · rename_i n' er
      split at q4
      · rename_i hnf
        rw [Bool.and_eq_true] at hnf
        cases q4
        have VG : VD (R ++ G) H := fun b hb => (List.mem_append.mp hb).elim (E.vd b) fun z => E.sl.tracked b (gF b z)
        refine ha.run (R ++ F) env (R ++ G) _ l ds e1 e3 σ H E.ev E.vd' hev VG v u h1 h2 hcm _ fun vs H1 Fn s1 o1 n1 f1 hq => ?_
        refine core R vs (D.fzs ds) H1 r n' s1 (fun b hb => List.mem_append_left _ hb) (fun b hb => hb) (Owns.fz _ o1 (fun b _ hb z => hb (List.mem_append_right _ z)) fun b hb z => VG b z (f1 b hb)) hq e4 er rfl rfl (.inr hnf)
      · cases q4
    · cases q4⟩
end
end Tg

namespace Tg
open PySem PySem.Spec L2 RT RZ
section
variable {X : Cx} {cl : Nat → Addr} {a b c e : Expr} {f g h : EE} {pos : Pos}
/-! ### built-ins of two values -/
structure GF2 (X : Cx) (cl : Nat → Addr) (f : Value) (g : D → D → Option D) : Prop where
  run : ∀ dx dy d, g dx dy = some d → ∃ r : List L2.V → Hp → VK → Prop, CallR X f r ∧ ∀ W H x y Fx Fy, VD W H → Own X.K cl W H x dx Fx → Own X.K cl W H y dy Fy → ∀ Q : VK, Po X.K cl W H d Q → r [x, y] H Q
theorem se_fn2 {id : String} {x : Str} {p : Pos} {G : D → D → Option D} (o : GF2 X cl (.builtin id) G) (hg : Gl X x) (hm : X.mg x = none) (hv : bootBuiltins x = some (.builtin id)) (ha : Pk X cl a f) (hb : Pk X cl b g) (hn : x ≠ "__name__" := by decide) (hdb : (x == ("__debug__" : Str)) = false := by decide)
    (h1 : starEach [a, b] X.env = (false, eval a X.env) :: starEach [b] X.env := by rfl) (h2 : starEach [b] X.env = (false, eval b X.env) :: starEach [] X.env := by rfl) (hpl : (backTo pos (starEach [b] X.env)).any (·.1) = false := by rfl) :
    Se X cl (.Call (.Name x p) [a, b] [] pos) (eOp G f g) := ⟨fun W env d q σ H E V Q k => by
  obtain ⟨dx, dy, e1, e2, e3⟩ := bind2 q
  obtain ⟨r, hr, run⟩ := o.run dx dy d e3
  refine wE.of (pe_callB hr hg hm hv (pa_cons pe_w (pa_cons pe_w pa_nil h2) h1) hn hdb h1 hpl) ?_
  refine ha.run W env dx e1 σ H E V _ fun v H1 F s1 o1 => ?_
  refine hb.run W env dy e2 σ H1 (E.mono s1) (V.mono s1) _ fun v2 H2 F2 s2 o2 => ?_
  exact run W H2 v v2 F F2 (V.mono (s1.trans s2)) (o1.mono s2) o2 Q fun z H3 F3 s3 o3 n3 f3 => k z H3 F3 ((s1.trans s2).trans s3) o3 n3 fun y hy => Same.back (s1.trans s2) (f3 y hy)⟩
def gMin : D → D → Option D
  | .int i, .int j => some (.int (if j < i then j else i))
  | _, _ => none
def gMax : D → D → Option D
  | .int i, .int j => some (.int (if j > i then j else i))
  | _, _ => none
theorem gf_min (hc : X.calm = true) : GF2 X cl (.builtin "min") gMin := ⟨fun dx dy d q => by
  refine ⟨_, call_min2 hc, fun W H x y Fx Fy V o1 o2 Q k => ?_⟩
  unfold gMin at q
  split at q
  · cases q
    cases own_int o1
    cases own_int o2
    exact ⟨_, _, rfl, k.int⟩
  · cases q⟩
theorem gf_max (hc : X.calm = true) : GF2 X cl (.builtin "max") gMax := ⟨fun dx dy d q => by
  refine ⟨_, call_max2 hc, fun W H x y Fx Fy V o1 o2 Q k => ?_⟩
  unfold gMax at q
  split at q
  · cases q
    cases own_int o1
    cases own_int o2
    exact ⟨_, _, rfl, k.int⟩
  · cases q⟩
end
end Tg

namespace Tg
open PySem PySem.Spec L2 RT RZ
/-! ### lengths of written lists -/
def LenA (fs : EA) (n : Nat) : Prop := ∀ env ds, fs env = some ds → ds.length = n
theorem la_nil : LenA eNil 0 := fun env ds h => by cases h; rfl
theorem la_cons {f : EE} {fs : EA} {n : Nat} (h : LenA fs n) : LenA (eCons f fs) (n + 1) := fun env ds q => by
  unfold eCons at q
  obtain ⟨x, _, q⟩ := bind1 q
  obtain ⟨xs, e, q⟩ := bind1 q
  cases q
  rw [List.length_cons, h env xs e]
section
variable {X : Cx} {cl : Nat → Addr} {io : List Nat} {a b e : Expr} {f g : EE} {fs : EA} {es : List Expr} {pos : Pos} {x1 : Nat} {st : Stmt} {s : SS} {n : Nat}
theorem se_tupN (h : Sa X cl es fs) (hl : LenA fs n) (hn : n ≤ 1000 := by decide) : Se X cl (.Tuple es x1 pos) (eTup fs) := se_tup h fun env ds q => by rw [hl env ds q]; exact hn
theorem se_lstN (h : Sa X cl es fs) (hl : LenA fs n) (hn : n ≤ 1000 := by decide) : Se X cl (.List es pos) (eLst fs) := se_lst h fun env ds q => by rw [hl env ds q]; exact hn
/-! ### slots forgotten ahead of a statement -/
def sPre (is : List Nat) (s : SS) : SS := fun env => s (clrD is env)
theorem sm_pre {is : List Nat} (h1 : Sm X cl io st s) : Sm X cl io st (sPre is s) := ⟨fun R F env fl q σ H E D k => by
  obtain ⟨F', E', sub⟩ := E.forgets is
  exact h1.run R F' _ fl q σ H E' D (k.step (Fr.same (Same.refl H) fun a ha => .inl (sub a ha)) Pin.refl)⟩
end
/-! ### & of any two ints -/
def gAndI : D → D → Option D
  | .int i, .int j => some (.int (Builtin.bitAnd i j))
  | _, _ => none
theorem go_andI {X : Cx} {cl : Nat → Addr} : GO X cl (binaryOp .BitAnd) gAndI := go_I0 op_and (fun dx dy d q => by
  unfold gAndI at q
  split at q
  · cases q; exact ⟨_, _, rfl, rfl, rfl⟩
  · cases q) fun i j _ _ => .int _
/-! ### the defs by the head's facts -/
section
variable {P : Program} {w : World} {K : PySem.W.Frag} {h : Heap} {mg : Str → Option Value} {base : Heap} {cl : Nat → Addr} {fa : List He.Fa} {fn : List He.DefD}
/-- how the arguments come to the parameters -/
def BindsD (K : PySem.W.Frag) (cl : Nat → Addr) (fd : FuncData) (ps : List Str) (dfl : List D) : Prop := ∃ dvs ds, Binds K fd ps ds ∧ Vals dvs ds ∧ ∀ W H, Owns K cl W H dvs dfl []
theorem bN_ok {x qual : Str} {params : Arguments} {stmts : List Stmt} {scope : Scope} {kws : List (Str × V)} {f : Addr} {fd : FuncData} {ps : List Str} (F : FunD K x qual params stmts scope [] kws f fd)
    (h : ∀ (kV doc pm : Value) (an : Option Addr) (cdv ct : Value) (us : List Value), us.length = ps.length → bindArgs (PySem.W.fnOf x qual params stmts scope .none kV doc pm an cdv ct) ⟨us, []⟩ = pure (ps.zip us)) : BindsD K cl fd ps [] :=
  ⟨[], [], FunD.bindsN F h, .nil, fun _ _ => .nil⟩
theorem b1_ok {x qual : Str} {params : Arguments} {stmts : List Stmt} {scope : Scope} {dvs : List V} {kws : List (Str × V)} {f : Addr} {fd : FuncData} {ps : List Str} {dfl : List D} (F : FunD K x qual params stmts scope dvs kws f fd) (n j : Nat) (hd : dvs ≠ []) (hn : n + (dvs.length - j) = ps.length)
    (h : ∀ (T : Addr) (kV doc pm : Value) (an : Option Addr) (cdv ct : Value) (us its : List Value), us.length = n → its.length = dvs.length →
      ∃ k, bindArgs (PySem.W.fnOf x qual params stmts scope (.ref T) kV doc pm an cdv ct) ⟨us, []⟩ = seqItems? (.ref T) >>= k ∧ k (some its.toArray) = pure (ps.zip (us ++ its.drop j)))
    (ho : ∀ W H, Owns K cl W H (dvs.drop j) dfl []) : BindsD K cl fd ps dfl := by
  obtain ⟨ds, h1, h2⟩ := FunD.binds1 F n j hd hn h
  exact ⟨_, ds, h2, h1, ho⟩
theorem cf_mk {k np : Nat} {io : List Nat} {x : Str} {sem : List D → Option (D × List D)} {dfl : List D} {ps : List Str} (c : He.SaysD fa fn K) (j : Nat) (d : He.DefD) (hd : fn[j]? = some d) (hg : mg x = some (.ref (He.fAd K d.at_)))
    (ok : ∀ fd, FunD K d.name d.qual d.params d.body d.scope (d.dvs K) (d.kws K) (He.fAd K d.at_) fd → FnOk P w K mg base CX0 k (He.fAd K d.at_) fd ps (spF K cl np io sem))
    (bd : ∀ fd, FunD K d.name d.qual d.params d.body d.scope (d.dvs K) (d.kws K) (He.fAd K d.at_) fd → BindsD K cl fd ps dfl) (len : ∀ ds r, sem ds = some r → ds.length = np) : CF P w K mg base cl k x sem io np dfl := by
  obtain ⟨fd, F⟩ := c.def_ j hd
  obtain ⟨dvs, ds, h1, h2, h3⟩ := bd fd F
  exact ⟨⟨_, fd, ps, dvs, ds, ok fd F, hg, F.kp, h1, h2, h3⟩, len⟩
end
/-- the law's own start -/
theorem law_start {K : PySem.W.Frag} {cl : Nat → Addr} {sem : List D → Option (D × List D)} {H : Hp} {a : Addr} {ns : List Int} {E : XK} (h : sem [.scr ns] = some (.bl true, [])) (hS : SqL K H a (ns.map V.int)) : spF K cl 1 [] sem [.ref a] H (fun v _ => v = .bl true) E := by
  have o : Own K cl ([] ++ []) H (.ref a) (.scr ns) [] := by
    rcases hS with hS | hS
    · exact .scr hS (fun z => nomatch z)
    · exact .scrK hS
  refine ⟨rfl, [], [], [.scr ns], .bl true, [], Owns.cons (F := []) (G := []) o .nil, List.nodup_nil, (fun _ z => nomatch z), (fun _ z => nomatch z), h, fun v H' F' G ow _ _ _ _ => own_bl ow⟩
end Tg

namespace Tg
/-! ## reckoning with the functions over trees -/
def tst {α : Type} (c : Option D) (a b : Option α) : Option α := match c with
  | some (.bl true) => a
  | some (.bl false) => b
  | _ => none
@[simp] theorem tst_t {α : Type} (a b : Option α) : tst (some (.bl true)) a b = a := (rfl)
@[simp] theorem tst_f {α : Type} (a b : Option α) : tst (some (.bl false)) a b = b := (rfl)
@[simp] theorem tst_dec {α : Type} (c : Prop) [Decidable c] (a b : Option α) : tst (some (.bl (decide c))) a b = if c then a else b := by
  by_cases h : c
  · rw [decide_eq_true h, if_pos h]; rfl
  · rw [decide_eq_false h, if_neg h]; rfl
@[simp] theorem tst_not {α : Type} (p : Bool) (a b : Option α) : tst (some (.bl (!p))) a b = tst (some (.bl p)) b a := by cases p <;> rfl
theorem tst_bl {α : Type} (p : Bool) (a b : Option α) : tst (some (.bl p)) a b = if p then a else b := by cases p <;> rfl
def seqF (r : Option Fl) (b : SS) : Option Fl := match r with
  | some (.nx e) => b e
  | r => r
@[simp] theorem sSeq_ev (a b : SS) (env : Env) : sSeq a b env = seqF (a env) b := (rfl)
@[simp] theorem seqF_nx (e : Env) (b : SS) : seqF (some (.nx e)) b = b e := (rfl)
@[simp] theorem seqF_rt (d : D) (e : Env) (b : SS) : seqF (some (.rt d e)) b = some (.rt d e) := (rfl)
@[simp] theorem seqF_bk (e : Env) (b : SS) : seqF (some (.bk e)) b = some (.bk e) := (rfl)
@[simp] theorem seqF_ct (e : Env) (b : SS) : seqF (some (.ct e)) b = some (.ct e) := (rfl)
@[simp] theorem seqF_none (b : SS) : seqF none b = none := (rfl)
@[simp] theorem seqF_ite {c : Prop} [Decidable c] (x y : Option Fl) (b : SS) : seqF (if c then x else y) b = if c then seqF x b else seqF y b := by split <;> rfl
@[simp] theorem sIf_ev (c : EE) (a b : SS) (env : Env) : sIf c a b env = tst (c env) (a env) (b env) := (rfl)
@[simp] theorem eAnd_ev (a b : EE) (env : Env) : eAnd a b env = tst (a env) (b env) (some (.bl false)) := (rfl)
@[simp] theorem eOr_ev (a b : EE) (env : Env) : eOr a b env = tst (a env) (some (.bl true)) (b env) := by
  unfold eOr
  cases a env with
  | none => rfl
  | some d => cases d <;> first | rfl | (rename_i b; cases b <;> rfl)
@[simp] theorem eIf_ev (c a b : EE) (env : Env) : eIf c a b env = tst (c env) (a env) (b env) := (rfl)
@[simp] theorem sNil_ev (env : Env) : sNil env = some (.nx env) := (rfl)
def varD : Option D → Option D
  | some .hole => none
  | some d => some d
  | none => none
@[simp] theorem eVar_ev (i : Nat) (env : Env) : eVar i env = varD env[i]? := (rfl)
@[simp] theorem varD_none : varD none = none := (rfl)
@[simp] theorem varD_hole : varD (some .hole) = none := (rfl)
@[simp] theorem varD_int (i : Int) : varD (some (.int i)) = some (.int i) := (rfl)
@[simp] theorem varD_bl (i : Bool) : varD (some (.bl i)) = some (.bl i) := (rfl)
@[simp] theorem varD_str (i : List Nat) : varD (some (.str i)) = some (.str i) := (rfl)
@[simp] theorem varD_non : varD (some .non) = some .non := (rfl)
@[simp] theorem varD_tup (xs : List D) : varD (some (.tup xs)) = some (.tup xs) := (rfl)
@[simp] theorem varD_lst (o : Bool) (xs : List D) : varD (some (.lst o xs)) = some (.lst o xs) := (rfl)
@[simp] theorem varD_dic (o : Bool) (k : Nat) (xs : List (D × D)) : varD (some (.dic o k xs)) = some (.dic o k xs) := (rfl)
@[simp] theorem varD_obj (o : Bool) (k : Nat) (xs : List (PySem.Str × D)) : varD (some (.obj o k xs)) = some (.obj o k xs) := (rfl)
@[simp] theorem varD_scr (i : List Int) : varD (some (.scr i)) = some (.scr i) := (rfl)
theorem varD_of {d : D} (h : d ≠ .hole) : varD (some d) = some d := by cases d <;> first | rfl | exact absurd rfl h
@[simp] theorem eC_ev (d : D) (env : Env) : eC d env = some d := (rfl)
@[simp] theorem eSh_ev (f : EE) (env : Env) : eSh f env = (f env).bind fun d => if d.sh then some d else none := (rfl)
@[simp] theorem eOp_ev (g : D → D → Option D) (a b : EE) (env : Env) : eOp g a b env = (a env).bind fun x => (b env).bind fun y => g x y := (rfl)
@[simp] theorem eUn_ev (g : D → Option D) (a : EE) (env : Env) : eUn g a env = (a env).bind g := (rfl)
@[simp] theorem eNil_ev (env : Env) : eNil env = some [] := (rfl)
@[simp] theorem eCons_ev (a : EE) (as : EA) (env : Env) : eCons a as env = (a env).bind fun x => (as env).bind fun xs => some (x :: xs) := (rfl)
@[simp] theorem eTup_ev (as : EA) (env : Env) : eTup as env = (as env).bind fun xs => some (.tup xs) := (rfl)
@[simp] theorem eLst_ev (as : EA) (env : Env) : eLst as env = (as env).bind fun xs => some (.lst true xs) := (rfl)
@[simp] theorem sRet_ev (e : EE) (env : Env) : sRet e env = (e env).bind fun d => some (.rt d env) := by
  unfold sRet; cases e env <;> rfl
@[simp] theorem sAsg_ev (e : EE) (t : TgT) (env : Env) : sAsg e t env = (e env).bind fun d => (t d env).bind fun e => some (.nx e) := by
  unfold sAsg; cases e env <;> first | rfl | (rename_i d; cases h : t d env <;> simp [h])
@[simp] theorem tgN_ev (i : Nat) (d : D) (env : Env) : tgN i d env = if i < env.length then some (env.set i d) else none := (rfl)
@[simp] theorem sPre_ev (is : List Nat) (s : SS) (env : Env) : sPre is s env = s (clrD is env) := (rfl)
@[simp] theorem clrD_nil (env : Env) : clrD [] env = env := (rfl)
@[simp] theorem clrD_cons (v : Nat) (vs : List Nat) (env : Env) : clrD (v :: vs) env = (clrD vs env).set v .hole := (rfl)
@[simp] theorem wipD_nil (env : Env) : wipD env [] = env := (rfl)
@[simp] theorem wipD_cons (v : Nat) (vs : List Nat) (env : Env) : wipD env (v :: vs) = (wipD env vs).set v .hole := (rfl)
def clrF (is : List Nat) (r : Option Fl) : Option Fl := match r with
  | some (.nx e) => some (.nx (clrD is e))
  | some (.ct e) => some (.ct (clrD is e))
  | r => r
@[simp] theorem sClrA_ev (is : List Nat) (s : SS) (env : Env) : sClrA is s env = clrF is (s env) := (rfl)
@[simp] theorem sClrB_ev (is : List Nat) (s : SS) (env : Env) : sClrB is s env = clrF is (s env) := (rfl)
@[simp] theorem clrF_nx (is : List Nat) (e : Env) : clrF is (some (.nx e)) = some (.nx (clrD is e)) := (rfl)
@[simp] theorem clrF_ct (is : List Nat) (e : Env) : clrF is (some (.ct e)) = some (.ct (clrD is e)) := (rfl)
@[simp] theorem clrF_bk (is : List Nat) (e : Env) : clrF is (some (.bk e)) = some (.bk e) := (rfl)
@[simp] theorem clrF_rt (is : List Nat) (d : D) (e : Env) : clrF is (some (.rt d e)) = some (.rt d e) := (rfl)
@[simp] theorem clrF_ite {c : Prop} [Decidable c] (is : List Nat) (x y : Option Fl) : clrF is (if c then x else y) = if c then clrF is x else clrF is y := by split <;> rfl
def fzF (i : Nat) (r : Option Fl) : Option Fl := match r with
  | some (.nx e) => (match e[i]? with
    | some d => some (.nx (e.set i d.fz))
    | none => some (.nx e))
  | r => r
@[simp] theorem sFzA_ev (i : Nat) (s : SS) (env : Env) : sFzA i s env = fzF i (s env) := by
  unfold sFzA fzF; rfl
@[simp] theorem fzF_nx (i : Nat) (e : Env) : fzF i (some (.nx e)) = (match e[i]? with
    | some d => some (.nx (e.set i d.fz))
    | none => some (.nx e)) := rfl
@[simp] theorem fzF_rt (i : Nat) (d : D) (e : Env) : fzF i (some (.rt d e)) = some (.rt d e) := (rfl)
def lentF (r : Option D) (f : EE) (env : Env) : Option D := match r with
  | some d => some d
  | none => (f (frz env)).bind fun d => if d.nf then some d else none
@[simp] theorem eLent_ev (f : EE) (env : Env) : eLent f env = lentF (f env) f env := (rfl)
@[simp] theorem lentF_some (d : D) (f : EE) (env : Env) : lentF (some d) f env = some d := (rfl)
@[simp] theorem lentF_none (f : EE) (env : Env) : lentF none f env = (f (frz env)).bind fun d => if d.nf then some d else none := (rfl)
def callF (sem : List D → Option (D × List D)) (dfl : List D) (r : Option (List D)) (fs : EA) (env : Env) : Option D := match r with
  | some ds => (sem (D.fzs ds ++ dfl)).bind fun r => some r.1
  | none => (fs (frz env)).bind fun ds => (sem (D.fzs ds ++ dfl)).bind fun r => if r.1.nf then some r.1 else none
@[simp] theorem eCallP_ev (sem : List D → Option (D × List D)) (dfl : List D) (fs : EA) (env : Env) : eCallP sem dfl fs env = callF sem dfl (fs env) fs env := by
  unfold eCallP callF
  cases fs env with
  | some ds => cases h : sem (D.fzs ds ++ dfl) <;> simp [h]
  | none => cases fs (frz env) <;> rfl
@[simp] theorem callF_some (sem : List D → Option (D × List D)) (dfl : List D) (ds : List D) (fs : EA) (env : Env) : callF sem dfl (some ds) fs env = (sem (D.fzs ds ++ dfl)).bind fun r => some r.1 := (rfl)
@[simp] theorem callF_none (sem : List D → Option (D × List D)) (dfl : List D) (fs : EA) (env : Env) : callF sem dfl none fs env = (fs (frz env)).bind fun ds => (sem (D.fzs ds ++ dfl)).bind fun r => if r.1.nf then some r.1 else none := (rfl)
@[simp] theorem frz_nil : frz [] = [] := (rfl)
@[simp] theorem frz_cons (d : D) (e : Env) : frz (d :: e) = d.fz :: frz e := (rfl)
@[simp] theorem sForI_ev (it : It) (tg : TgT) (body : SS) (env : Env) : sForI it tg body env = (it env).bind fun xs => sFor tg body xs env := (rfl)
@[simp] theorem iSeq_ev (a : EE) (env : Env) : iSeq a env = (a env).bind items := (rfl)
@[simp] theorem sFor_nil (tg : TgT) (body : SS) (env : Env) : sFor tg body [] env = some (.nx env) := (rfl)
def forK (r : Option Fl) (k : Env → Option Fl) : Option Fl := match r with
  | some (.nx env') => k env'
  | some (.ct env') => k env'
  | some (.bk env') => some (.nx env')
  | some (.rt d env') => some (.rt d env')
  | none => none
theorem sFor_cons (tg : TgT) (body : SS) (x : D) (xs : List D) (env : Env) : sFor tg body (x :: xs) env = (tg x env).bind fun e1 => forK (body e1) (sFor tg body xs) := (rfl)
/-- what a def's body tells -/
def finF (io : List Nat) (r : Option Fl) : Option (D × List D) := match r with
  | some (.rt d e) => if io.all (fun i => decide (i < e.length)) then some (d, io.map fun i => e.getD i .hole) else none
  | some (.nx e) => if io.all (fun i => decide (i < e.length)) then some (.non, io.map fun i => e.getD i .hole) else none
  | _ => none
theorem runFn_ev (np ns : Nat) (io : List Nat) (body : SS) (ds : List D) : runFn np ns io body ds = if ds.length = np then finF io (body (ds ++ List.replicate (ns - np) .hole)) else none := (rfl)
@[simp] theorem finF_rt0 (d : D) (e : Env) : finF [] (some (.rt d e)) = some (d, []) := (rfl)
@[simp] theorem finF_nx0 (e : Env) : finF [] (some (.nx e)) = some (.non, []) := (rfl)
@[simp] theorem finF_ite {c : Prop} [Decidable c] (io : List Nat) (x y : Option Fl) : finF io (if c then x else y) = if c then finF io x else finF io y := by split <;> rfl
/-! ### loops -/
theorem sFor_fold {α σ : Type} (enc : α → D) (mk : σ → Env) (step : σ → α → σ) (I : σ → Prop) {tg : TgT} {body : SS} : ∀ (xs : List α) (s : σ), (∀ s x, x ∈ xs → I s → ∃ e1, tg (enc x) (mk s) = some e1 ∧ body e1 = some (.nx (mk (step s x))) ∧ I (step s x)) → I s →
    sFor tg body (xs.map enc) (mk s) = some (.nx (mk (xs.foldl step s))) ∧ I (xs.foldl step s)
  | [], s, _, hI => ⟨rfl, hI⟩
  | x :: xs, s, h, hI => by
    obtain ⟨e1, h1, h2, h3⟩ := h s x List.mem_cons_self hI
    have ih := sFor_fold enc mk step I xs (step s x) (fun s y hy => h s y (List.mem_cons_of_mem _ hy)) h3
    refine ⟨?_, ih.2⟩
    show (tg (enc x) (mk s)).bind _ = _
    rw [h1]
    show (match body e1 with
      | some (.nx env') => sFor tg body (xs.map enc) env'
      | some (.ct env') => sFor tg body (xs.map enc) env'
      | some (.bk env') => some (.nx env')
      | some (.rt d env') => some (.rt d env')
      | none => none) = _
    rw [h2]
    exact ih.1
/-- with the place in the list told -/
theorem sFor_ix {σ : Type} (mk : σ → Env) {tg : TgT} {body : SS} (I : Nat → σ → Prop) : ∀ (xs : List D) (i : Nat) (s : σ), (∀ j s, (hj : j < xs.length) → I (i + j) s → ∃ e1 s', tg xs[j] (mk s) = some e1 ∧ body e1 = some (.nx (mk s')) ∧ I (i + j + 1) s') → I i s →
    ∃ s', sFor tg body xs (mk s) = some (.nx (mk s')) ∧ I (i + xs.length) s'
  | [], i, s, _, hI => ⟨s, rfl, hI⟩
  | x :: xs, i, s, h, hI => by
    obtain ⟨e1, s1, h1, h2, h3⟩ := h 0 s (by simp) hI
    obtain ⟨s', h4, h5⟩ := sFor_ix mk I xs (i + 1) s1 (fun j s hj hs => by
      obtain ⟨e2, s2, g1, g2, g3⟩ := h (j + 1) s (by simpa using hj) (by rwa [show i + (j + 1) = i + 1 + j by omega])
      exact ⟨e2, s2, by simpa using g1, g2, by rwa [show i + 1 + j + 1 = i + (j + 1) + 1 by omega]⟩) h3
    refine ⟨s', ?_, by rw [List.length_cons, show i + (xs.length + 1) = i + 1 + xs.length by omega]; exact h5⟩
    have h1' : tg x (mk s) = some e1 := h1
    show (tg x (mk s)).bind _ = _
    rw [h1']
    show (match body e1 with
      | some (.nx env') => sFor tg body xs env'
      | some (.ct env') => sFor tg body xs env'
      | some (.bk env') => some (.nx env')
      | some (.rt d env') => some (.rt d env')
      | none => none) = _
    rw [h2]
    exact h4
theorem compL_map {α : Type} (enc : α → D) (out : α → D) (p : α → Bool) {tg : TgT} {c e : EE} {env : Env} : ∀ (xs : List α), (∀ x ∈ xs, ∃ e1, tg (enc x) env = some e1 ∧ c e1 = some (.bl (p x)) ∧ (p x = true → e e1 = some (out x))) →
    compL tg c e env (xs.map enc) = some ((xs.filter p).map out)
  | [], _ => rfl
  | x :: xs, h => by
    obtain ⟨e1, h1, h2, h3⟩ := h x List.mem_cons_self
    have ih := compL_map enc out p xs fun y hy => h y (List.mem_cons_of_mem _ hy)
    show (tg (enc x) env).bind _ = _
    rw [h1]
    show (match c e1 with
      | some (.bl true) => (e e1).bind fun d => (compL tg c e env (xs.map enc)).map fun r => d :: r
      | some (.bl false) => compL tg c e env (xs.map enc)
      | _ => none) = _
    rw [h2]
    cases hp : p x with
    | true =>
      show ((e e1).bind fun d => (compL tg c e env (xs.map enc)).map fun r => d :: r) = _
      rw [h3 hp, ih, List.filter_cons_of_pos hp]
      rfl
    | false =>
      show compL tg c e env (xs.map enc) = _
      rw [ih, List.filter_cons_of_neg (by rw [hp]; exact Bool.false_ne_true)]
theorem filter_yes {α : Type} (xs : List α) : xs.filter (fun _ => true) = xs := by induction xs <;> simp_all
/-! ### places -/
theorem ixD_nat {n i : Nat} (h : i < n) : ixD n (i : Int) = some i := by
  unfold ixD
  rw [if_pos (by omega), if_pos (by omega)]
  simp
theorem ixD_pos {n : Nat} {i : Int} (h0 : 0 ≤ i) (h : i < n) : ixD n i = some i.toNat := by
  unfold ixD
  rw [if_pos h0, if_pos h]
theorem atD_pos {α : Type} {xs : List α} {i : Int} (h0 : 0 ≤ i) (h : i < xs.length) : atD xs i = xs[i.toNat]? := by
  unfold atD
  rw [ixD_pos h0 h]
  rfl
theorem atD_nat {α : Type} {xs : List α} {i : Nat} (h : i < xs.length) : atD xs (i : Int) = some xs[i] := by
  unfold atD
  rw [ixD_nat h]
  exact List.getElem?_eq_getElem h
/-! ### what is shared, frozen, equal -/
@[simp] theorem shs_ints (ns : List Int) : D.shs (ns.map .int) = true := by
  induction ns with
  | nil => rfl
  | cons n r ih => show (true && D.shs (r.map .int)) = true; rw [ih]; rfl
theorem shs_map {α : Type} (f : α → D) (h : ∀ x, (f x).sh = true) (xs : List α) : D.shs (xs.map f) = true := by
  induction xs with
  | nil => rfl
  | cons n r ih => show ((f n).sh && D.shs (r.map f)) = true; rw [ih, h]; rfl
theorem fzs_map {α : Type} (f : α → D) (h : ∀ x, (f x).fz = f x) (xs : List α) : D.fzs (xs.map f) = xs.map f := by
  induction xs with
  | nil => rfl
  | cons n r ih => show (f n).fz :: D.fzs (r.map f) = _; rw [ih, h]; rfl
@[simp] theorem fzs_ints (ns : List Int) : D.fzs (ns.map .int) = ns.map .int := fzs_map _ (fun _ => rfl) ns
theorem nfs_map {α : Type} (f : α → D) (h : ∀ x, (f x).nf = true) (xs : List α) : D.nfs (xs.map f) = true := by
  induction xs with
  | nil => rfl
  | cons n r ih => show ((f n).nf && D.nfs (r.map f)) = true; rw [ih, h]; rfl
@[simp] theorem nfs_ints (ns : List Int) : D.nfs (ns.map .int) = true := nfs_map _ (fun _ => rfl) ns
@[simp] theorem nfs_mi {α : Type} (f : α → Int) (xs : List α) : D.nfs (xs.map fun p => .int (f p)) = true := nfs_map _ (fun _ => rfl) xs
@[simp] theorem shs_mi {α : Type} (f : α → Int) (xs : List α) : D.shs (xs.map fun p => .int (f p)) = true := shs_map _ (fun _ => rfl) xs
@[simp] theorem fzs_mi {α : Type} (f : α → Int) (xs : List α) : D.fzs (xs.map fun p => .int (f p)) = xs.map fun p => .int (f p) := fzs_map _ (fun _ => rfl) xs
@[simp] theorem nfs_mc {α : Type} (f : α → Int) (xs : List α) : D.nfs (xs.map (D.int ∘ f)) = true := nfs_map _ (fun _ => rfl) xs
@[simp] theorem shs_mc {α : Type} (f : α → Int) (xs : List α) : D.shs (xs.map (D.int ∘ f)) = true := shs_map _ (fun _ => rfl) xs
@[simp] theorem fzs_mc {α : Type} (f : α → Int) (xs : List α) : D.fzs (xs.map (D.int ∘ f)) = xs.map (D.int ∘ f) := fzs_map _ (fun _ => rfl) xs
theorem eqoks_map {α : Type} (n : Nat) (f : α → D) (h : ∀ x, (f x).eqok n = true) (xs : List α) : D.eqoks n (xs.map f) = true := by
  induction xs with
  | nil => unfold D.eqoks; rfl
  | cons x r ih => rw [List.map_cons]; unfold D.eqoks; rw [ih, h]; rfl
theorem eqok_int (n : Nat) (i : Int) : D.eqok n (.int i) = true := by unfold D.eqok; rfl
theorem eqoks_ints (n : Nat) (ns : List Int) : D.eqoks n (ns.map .int) = true := eqoks_map n _ (eqok_int n) ns
mutual
theorem D.eqv_refl : ∀ (n : Nat) (d : D), d.eqok n = true → D.eqv d d = true
  | _, .non, _ => rfl
  | _, .bl b, _ => by show (b == b) = true; simp
  | _, .int i, _ => by show (i == i) = true; simp
  | _, .str x, _ => by show (x == x) = true; simp
  | n + 1, .lst o xs, h => D.eqvs_refl n xs h
  | n + 1, .tup xs, h => D.eqvs_refl n xs h
  | 0, .lst _ _, h => by cases h
  | 0, .tup _, h => by cases h
  | n, .scr _, h => by cases n <;> cases h
  | n, .dic _ _ _, h => by cases n <;> cases h
  | n, .obj _ _ _, h => by cases n <;> cases h
  | n, .hole, h => by cases n <;> cases h
theorem D.eqvs_refl : ∀ (n : Nat) (xs : List D), D.eqoks n xs = true → D.eqvs xs xs = true
  | _, [], _ => rfl
  | n, x :: xs, h => by
    unfold D.eqoks at h
    rw [Bool.and_eq_true] at h
    show (D.eqv x x && D.eqvs xs xs) = true
    rw [D.eqv_refl n x h.1, D.eqvs_refl n xs h.2]
    rfl
end
/-! ### the operations, by their arguments -/
@[simp] theorem gAdd_ii (i j : Int) : gAdd (.int i) (.int j) = some (.int (i + j)) := (rfl)
@[simp] theorem gAdd_ss (x y : List Nat) : gAdd (.str x) (.str y) = if x.length + y.length ≤ line then some (.str (x ++ y)) else none := (rfl)
@[simp] theorem gAdd_ll (o o' : Bool) (xs ys : List D) : gAdd (.lst o xs) (.lst o' ys) = if D.shs xs && D.shs ys && decide (xs.length + ys.length ≤ line) then some (.lst true (xs ++ ys)) else none := (rfl)
@[simp] theorem gAdd_tt (xs ys : List D) : gAdd (.tup xs) (.tup ys) = if D.shs xs && D.shs ys && !xs.isEmpty && !ys.isEmpty && decide (xs.length + ys.length ≤ line) then some (.tup (xs ++ ys)) else none := (rfl)
@[simp] theorem gSub_ii (i j : Int) : gSub (.int i) (.int j) = some (.int (i - j)) := (rfl)
@[simp] theorem gMul_li (o : Bool) (xs : List D) (k : Int) : gMul (.lst o xs) (.int k) = if D.shs xs && decide (-(2 ^ 63) ≤ k ∧ k < 2 ^ 63 ∧ xs.length * k.toNat ≤ line) then some (.lst true (List.replicate k.toNat xs).flatten) else none := (rfl)
theorem gMul_ii (i j : Int) : gMul (.int i) (.int j) = if i.natAbs.log2 + j.natAbs.log2 < 1000000 ∨ (-(2 ^ 64) < i ∧ i < 2 ^ 64) ∨ (-(2 ^ 64) < j ∧ j < 2 ^ 64) then some (.int (i * j)) else none := (rfl)
theorem gMul_l {i j : Int} (h1 : -(2 ^ 64) < i) (h2 : i < 2 ^ 64) : gMul (.int i) (.int j) = some (.int (i * j)) := by
  rw [gMul_ii, if_pos (.inr (.inl ⟨h1, h2⟩))]
theorem gMul_r {i j : Int} (h1 : -(2 ^ 64) < j) (h2 : j < 2 ^ 64) : gMul (.int i) (.int j) = some (.int (i * j)) := by
  rw [gMul_ii, if_pos (.inr (.inr ⟨h1, h2⟩))]
theorem gDiv_ii {i j : Int} (h0 : 0 < j) (h : j < 1073741824 ∨ j.natAbs.log2 < 9000) : gDiv (.int i) (.int j) = some (.int (i / j)) := by
  show (if _ then _ else _) = _
  rw [if_pos ⟨h0, h⟩]
theorem gMod_ii {i j : Int} (h0 : 0 < j) : gMod (.int i) (.int j) = some (.int (i % j)) := by
  show (if _ then _ else _) = _
  rw [if_pos h0]
@[simp] theorem gDiv_if (i j : Int) : gDiv (.int i) (.int j) = if 0 < j ∧ (j < 1073741824 ∨ j.natAbs.log2 < 9000) then some (.int (i / j)) else none := (rfl)
@[simp] theorem gMod_if (i j : Int) : gMod (.int i) (.int j) = if 0 < j then some (.int (i % j)) else none := (rfl)
@[simp] theorem gPow_if (i j : Int) : gPow (.int i) (.int j) = if 0 ≤ j ∧ j ≤ 1000000 ∧ i.natAbs < 2 ^ 64 then some (.int (i ^ j.toNat)) else none := (rfl)
@[simp] theorem gShl_if (i j : Int) : gShl (.int i) (.int j) = if 0 ≤ j ∧ j ≤ 1000000 ∧ i.natAbs < 2 ^ 64 then some (.int (i * 2 ^ j.toNat)) else none := (rfl)
@[simp] theorem gShr_if (i j : Int) : gShr (.int i) (.int j) = if 0 ≤ j then some (.int (i / 2 ^ j.toNat)) else none := (rfl)
@[simp] theorem gAndI_ii (i j : Int) : gAndI (.int i) (.int j) = some (.int (PySem.Builtin.bitAnd i j)) := (rfl)
@[simp] theorem gOrB_if (i j : Int) : gOrB (.int i) (.int j) = if 0 ≤ i ∧ 0 ≤ j then some (.int ((i.toNat ||| j.toNat : Nat) : Int)) else none := (rfl)
@[simp] theorem gXorB_if (i j : Int) : gXorB (.int i) (.int j) = if 0 ≤ i ∧ 0 ≤ j then some (.int ((i.toNat ^^^ j.toNat : Nat) : Int)) else none := (rfl)
@[simp] theorem gNeg_i (i : Int) : gNeg (.int i) = some (.int (-i)) := (rfl)
@[simp] theorem gNot_b (b : Bool) : gNot (.bl b) = some (.bl (!b)) := (rfl)
@[simp] theorem gLt_ii (i j : Int) : gLt (.int i) (.int j) = some (.bl (decide (i < j))) := (rfl)
@[simp] theorem gLe_ii (i j : Int) : gLe (.int i) (.int j) = some (.bl (decide (i ≤ j))) := (rfl)
@[simp] theorem gGt_ii (i j : Int) : gGt (.int i) (.int j) = some (.bl (decide (j < i))) := (rfl)
@[simp] theorem gGe_ii (i j : Int) : gGe (.int i) (.int j) = some (.bl (decide (j ≤ i))) := (rfl)
theorem beq_dec (i j : Int) : (i == j) = decide (i = j) := (rfl)
@[simp] theorem gEq_ii (i j : Int) : gEq (.int i) (.int j) = some (.bl (decide (i = j))) := by
  show (Option.map _ (if (D.eqok 60 (.int i) && D.eqok 60 (.int j)) = true then some (D.eqv (.int i) (.int j)) else none)) = _
  rw [eqok_int, eqok_int]
  rfl
@[simp] theorem gNe_ii (i j : Int) : gNe (.int i) (.int j) = some (.bl (!decide (i = j))) := by
  show (Option.map _ (if (D.eqok 60 (.int i) && D.eqok 60 (.int j)) = true then some (D.eqv (.int i) (.int j)) else none)) = _
  rw [eqok_int, eqok_int]
  rfl
@[simp] theorem gEq_ss (x y : List Nat) : gEq (.str x) (.str y) = some (.bl (x == y)) := (rfl)
@[simp] theorem gNe_ss (x y : List Nat) : gNe (.str x) (.str y) = some (.bl (!(x == y))) := (rfl)
theorem gEq_of {x y : D} (hx : x.eqok 60 = true) (hy : y.eqok 60 = true) : gEq x y = some (.bl (D.eqv x y)) := by
  unfold gEq eqD
  split
  · rfl
  · rw [hx, hy]; rfl
theorem gNe_of {x y : D} (hx : x.eqok 60 = true) (hy : y.eqok 60 = true) : gNe x y = some (.bl (!D.eqv x y)) := by
  unfold gNe eqD
  split
  · rfl
  · rw [hx, hy]; rfl
theorem gEq_same {x : D} (hx : x.eqok 60 = true) : gEq x x = some (.bl true) := by rw [gEq_of hx hx, D.eqv_refl 60 x hx]
theorem gNe_same {x : D} (hx : x.eqok 60 = true) : gNe x x = some (.bl false) := by rw [gNe_of hx hx, D.eqv_refl 60 x hx]; rfl
@[simp] theorem gIx_l (o : Bool) (xs : List D) (i : Int) : gIx (.lst o xs) (.int i) = atD xs i := (rfl)
@[simp] theorem gIx_t (xs : List D) (i : Int) : gIx (.tup xs) (.int i) = atD xs i := (rfl)
@[simp] theorem gIx_s (x : List Nat) (i : Int) : gIx (.str x) (.int i) = if x.length ≤ line then (atD x i).map fun c => .str [c] else none := (rfl)
@[simp] theorem gIx_c (ns : List Int) (i : Int) : gIx (.scr ns) (.int i) = (atD ns i).map .int := (rfl)
@[simp] theorem gLen_l (o : Bool) (xs : List D) : gLen (.lst o xs) = some (.int xs.length) := (rfl)
@[simp] theorem gLen_t (xs : List D) : gLen (.tup xs) = some (.int xs.length) := (rfl)
@[simp] theorem gLen_c (ns : List Int) : gLen (.scr ns) = some (.int ns.length) := (rfl)
@[simp] theorem gLen_s (x : List Nat) : gLen (.str x) = if x.length ≤ line then some (.int x.length) else none := (rfl)
@[simp] theorem gList_l (o : Bool) (xs : List D) : gList (.lst o xs) = if D.shs xs then some (.lst true xs) else none := (rfl)
@[simp] theorem gList_t (xs : List D) : gList (.tup xs) = if D.shs xs then some (.lst true xs) else none := (rfl)
@[simp] theorem gList_c (ns : List Int) : gList (.scr ns) = some (.lst true (ns.map .int)) := (rfl)
@[simp] theorem gTuple_l (o : Bool) (xs : List D) : gTuple (.lst o xs) = if D.shs xs then some (.tup xs) else none := (rfl)
@[simp] theorem gTuple_t (xs : List D) : gTuple (.tup xs) = if D.shs xs then some (.tup xs) else none := (rfl)
@[simp] theorem gInt_i (i : Int) : gInt (.int i) = some (.int i) := (rfl)
@[simp] theorem gInt_b (b : Bool) : gInt (.bl b) = some (.int (if b then 1 else 0)) := (rfl)
@[simp] theorem gSum_ints (o : Bool) (ns : List Int) : gSum (.lst o (ns.map .int)) = some (.int ns.sum) := by
  show (intsD (ns.map .int)).map _ = _
  rw [intsD_map]; rfl
@[simp] theorem gAny_bls (o : Bool) (ns : List Bool) : gAny (.lst o (ns.map .bl)) = some (.bl (ns.any id)) := by
  show (blsD (ns.map .bl)).map _ = _
  rw [blsD_map]; rfl
@[simp] theorem gAll_bls (o : Bool) (ns : List Bool) : gAll (.lst o (ns.map .bl)) = some (.bl (ns.all id)) := by
  show (blsD (ns.map .bl)).map _ = _
  rw [blsD_map]; rfl
@[simp] theorem gIsN_non : gIsN .non = some (.bl true) := (rfl)
@[simp] theorem gIsN_int (i : Int) : gIsN (.int i) = some (.bl false) := (rfl)
@[simp] theorem gIsN_tup (xs : List D) : gIsN (.tup xs) = some (.bl false) := (rfl)
@[simp] theorem gIsN_lst (o : Bool) (xs : List D) : gIsN (.lst o xs) = some (.bl false) := (rfl)
@[simp] theorem gNotN_non : gNotN .non = some (.bl false) := (rfl)
@[simp] theorem gNotN_int (i : Int) : gNotN (.int i) = some (.bl true) := (rfl)
@[simp] theorem gNotN_tup (xs : List D) : gNotN (.tup xs) = some (.bl true) := (rfl)
@[simp] theorem gNotN_lst (o : Bool) (xs : List D) : gNotN (.lst o xs) = some (.bl true) := (rfl)
@[simp] theorem eInst_ev (t : Ty) (a : EE) (env : Env) : eInst t a env = (a env).bind fun d => (isI t d).map .bl := (rfl)
@[simp] theorem isI_int (t : Ty) (i : Int) : isI t (.int i) = some (match t with | .int => true | _ => false) := by cases t <;> rfl
@[simp] theorem isI_bl (t : Ty) (i : Bool) : isI t (.bl i) = some (match t with | .int => true | .bool => true | _ => false) := by cases t <;> rfl
@[simp] theorem isI_str (t : Ty) (x : List Nat) : isI t (.str x) = some (match t with | .str => true | _ => false) := by cases t <;> rfl
@[simp] theorem isI_tup (t : Ty) (x : List D) : isI t (.tup x) = some (match t with | .tuple => true | _ => false) := by cases t <;> rfl
@[simp] theorem isI_lst (t : Ty) (o : Bool) (x : List D) : isI t (.lst o x) = some (match t with | .list => true | _ => false) := by cases t <;> rfl
@[simp] theorem isI_dic (t : Ty) (o : Bool) (k : Nat) (x : List (D × D)) : isI t (.dic o k x) = some (match t with | .dict => true | _ => false) := by cases t <;> rfl
@[simp] theorem isI_non (t : Ty) : isI t .non = some false := by cases t <;> rfl
@[simp] theorem items_l (o : Bool) (xs : List D) : items (.lst o xs) = if D.shs xs then some xs else none := (rfl)
@[simp] theorem items_t (xs : List D) : items (.tup xs) = if D.shs xs then some xs else none := (rfl)
@[simp] theorem items_s (x : List Nat) : items (.str x) = some (x.map fun c => .str [c]) := (rfl)
@[simp] theorem items_c (ns : List Int) : items (.scr ns) = some (ns.map .int) := (rfl)
@[simp] theorem sh_int (i : Int) : D.sh (.int i) = true := (rfl)
@[simp] theorem sh_bl (i : Bool) : D.sh (.bl i) = true := (rfl)
@[simp] theorem sh_str (i : List Nat) : D.sh (.str i) = true := (rfl)
@[simp] theorem sh_non : D.sh .non = true := (rfl)
@[simp] theorem sh_scr (i : List Int) : D.sh (.scr i) = true := (rfl)
@[simp] theorem sh_tup (i : List D) : D.sh (.tup i) = D.shs i := (rfl)
@[simp] theorem sh_lst (o : Bool) (i : List D) : D.sh (.lst o i) = !o := (rfl)
@[simp] theorem shs_nil : D.shs [] = true := (rfl)
@[simp] theorem shs_cons (x : D) (xs : List D) : D.shs (x :: xs) = (x.sh && D.shs xs) := (rfl)
@[simp] theorem fz_int (i : Int) : D.fz (.int i) = .int i := (rfl)
@[simp] theorem fz_bl (i : Bool) : D.fz (.bl i) = .bl i := (rfl)
@[simp] theorem fz_str (i : List Nat) : D.fz (.str i) = .str i := (rfl)
@[simp] theorem fz_non : D.fz .non = .non := (rfl)
@[simp] theorem fz_holeD : D.fz .hole = .hole := (rfl)
@[simp] theorem fz_scr (i : List Int) : D.fz (.scr i) = .scr i := (rfl)
@[simp] theorem fz_tup (i : List D) : D.fz (.tup i) = .tup (D.fzs i) := (rfl)
@[simp] theorem fz_lst (i : List D) : D.fz (.lst true i) = .lst false (D.fzs i) := (rfl)
@[simp] theorem fz_lstf (i : List D) : D.fz (.lst false i) = .lst false i := (rfl)
@[simp] theorem fzs_nil : D.fzs [] = [] := (rfl)
@[simp] theorem fzs_cons (x : D) (xs : List D) : D.fzs (x :: xs) = x.fz :: D.fzs xs := (rfl)
@[simp] theorem nf_int (i : Int) : D.nf (.int i) = true := (rfl)
@[simp] theorem nf_bl (i : Bool) : D.nf (.bl i) = true := (rfl)
@[simp] theorem nf_str (i : List Nat) : D.nf (.str i) = true := (rfl)
@[simp] theorem nf_non : D.nf .non = true := (rfl)
@[simp] theorem nf_hole : D.nf .hole = true := (rfl)
@[simp] theorem nf_tup (i : List D) : D.nf (.tup i) = D.nfs i := (rfl)
@[simp] theorem nf_lst (o : Bool) (i : List D) : D.nf (.lst o i) = (o && D.nfs i) := (rfl)
@[simp] theorem nfs_nil : D.nfs [] = true := (rfl)
@[simp] theorem nfs_cons (x : D) (xs : List D) : D.nfs (x :: xs) = (x.nf && D.nfs xs) := (rfl)
@[simp] theorem eCut_ev (a : EE) (lo hi : Env → Option (Option Int)) (env : Env) : eCut a lo hi env = (a env).bind fun x => (lo env).bind fun l => (hi env).bind fun h => gCut l h x := (rfl)
@[simp] theorem pNone_ev (env : Env) : pNone env = some none := (rfl)
@[simp] theorem pSome_ev (a : EE) (env : Env) : pSome a env = ((a env).bind gPart).map some := (rfl)
@[simp] theorem gPart_i (i : Int) : gPart (.int i) = some i := (rfl)
@[simp] theorem gCut_l (lo hi : Option Int) (o : Bool) (xs : List D) : gCut lo hi (.lst o xs) = if D.shs xs then some (.lst true (cutD xs lo hi)) else none := (rfl)
@[simp] theorem gCut_c (lo hi : Option Int) (ns : List Int) : gCut lo hi (.scr ns) = some (.lst true ((cutD ns lo hi).map .int)) := (rfl)
@[simp] theorem gCut_s (lo hi : Option Int) (x : List Nat) : gCut lo hi (.str x) = if x.length ≤ line then some (.str (cutD x lo hi)) else none := (rfl)
@[simp] theorem gCut_t (lo hi : Option Int) (xs : List D) : gCut lo hi (.tup xs) = if D.shs xs && decide ((cutD xs lo hi).length < xs.length) then some (.tup (cutD xs lo hi)) else none := (rfl)
@[simp] theorem tgX_t (ts : List TgT) (xs : List D) (env : Env) : tgX ts (.tup xs) env = tgs ts xs env := (rfl)
@[simp] theorem tgX_l (ts : List TgT) (o : Bool) (xs : List D) (env : Env) : tgX ts (.lst o xs) env = tgs ts xs env := (rfl)
@[simp] theorem tgU_t (ts : List TgT) (xs : List D) (env : Env) : tgU ts (.tup xs) env = tgs ts xs env := (rfl)
@[simp] theorem tgs_nil (env : Env) : tgs [] [] env = some env := (rfl)
@[simp] theorem tgs_cons (t : TgT) (ts : List TgT) (d : D) (ds : List D) (env : Env) : tgs (t :: ts) (d :: ds) env = (t d env).bind (tgs ts ds) := (rfl)
@[simp] theorem eCompW_ev (vs : List Nat) (it : It) (tg : TgT) (c e : EE) (env : Env) : eCompW vs it tg c e env = (it env).bind fun xs => if xs.length < line then (compL tg c e (wipD env vs) xs).map (.lst true) else none := (rfl)
@[simp] theorem cYes_ev (env : Env) : cYes env = some (.bl true) := (rfl)
theorem compL_all {α : Type} (enc : α → D) (out : α → D) {tg : TgT} {e : EE} {env : Env} (xs : List α) (h : ∀ x ∈ xs, ∃ e1, tg (enc x) env = some e1 ∧ e e1 = some (out x)) : compL tg cYes e env (xs.map enc) = some (xs.map out) := by
  have := compL_map enc out (fun _ => true) (tg := tg) (c := cYes) (e := e) (env := env) xs fun x hx => by
    obtain ⟨e1, h1, h2⟩ := h x hx
    exact ⟨e1, h1, rfl, fun _ => h2⟩
  rwa [filter_yes] at this
/-- each element some value of a kind -/
theorem compL_ex {α : Type} (P : α → Prop) (out : α → D) {tg : TgT} {e : EE} {env : Env} : ∀ (xs : List D), (∀ x ∈ xs, ∃ e1 y, tg x env = some e1 ∧ e e1 = some (out y) ∧ P y) → ∃ ys : List α, compL tg cYes e env xs = some (ys.map out) ∧ ys.length = xs.length ∧ ∀ y ∈ ys, P y
  | [], _ => ⟨[], rfl, rfl, fun _ h => nomatch h⟩
  | x :: xs, h => by
    obtain ⟨e1, y, h1, h2, h3⟩ := h x List.mem_cons_self
    obtain ⟨ys, h4, h5, h6⟩ := compL_ex P out xs fun z hz => h z (List.mem_cons_of_mem _ hz)
    refine ⟨y :: ys, ?_, by simp [h5], fun z hz => ?_⟩
    · show (tg x env).bind _ = _
      rw [h1]
      show ((e e1).bind fun d => (compL tg cYes e env xs).map fun r => d :: r) = _
      rw [h2, h4]
      rfl
    · rcases List.mem_cons.mp hz with z1 | z1
      · rw [z1]; exact h3
      · exact h6 z z1
@[simp] theorem iRng_ev (a : EE) (env : Env) : iRng a env = (match a env with
  | some (.int n) => if small62 n then some ((List.range n.toNat).map fun (k : Nat) => .int (k : Int)) else none
  | _ => none) := (rfl)
@[simp] theorem iRng2_ev (a b : EE) (env : Env) : iRng2 a b env = (match a env, b env with
  | some (.int m), some (.int n) => if small62 m && small62 n then some ((List.range (n - m).toNat).map fun (k : Nat) => .int (m + (k : Int))) else none
  | _, _ => none) := (rfl)
theorem small_nat {n : Nat} (h : n < 1000000) : small62 (n : Int) = true := by
  unfold small62
  simp
  omega
@[simp] theorem iEnum_ev (a : EE) (env : Env) : iEnum a env = (a env).bind fun d => match d with
  | .lst _ xs => if D.shs xs then some ((List.range xs.length).zipWith (fun (k : Nat) x => .tup [.int (k : Int), x]) xs) else none
  | _ => none := (rfl)
@[simp] theorem iRevD_ev (a : EE) (env : Env) : iRevD a env = (a env).bind fun d => match d with
  | .lst _ xs => if D.shs xs then some xs.reverse else none
  | .tup xs => if D.shs xs then some xs.reverse else none
  | _ => none := (rfl)
/-! ### lists changed -/
@[simp] theorem qNil_ev (env : Env) : qNil env = some [] := (rfl)
@[simp] theorem getAt_nil (i : Nat) (env : Env) : getAt i [] env = varD env[i]? := by
  unfold getAt
  cases env[i]? with
  | none => rfl
  | some d => cases d <;> rfl
@[simp] theorem setAt_nil (i : Nat) (d : D) (env : Env) : setAt i [] d env = (match env[i]? with
  | some _ => env.set i d
  | none => env) := by
  unfold setAt
  cases env[i]? <;> rfl
@[simp] theorem sApp_ev (i : Nat) (p : EP1) (e : EE) (env : Env) : sApp i p e env = (p env).bind fun l => match getAt i l env with
  | some (.lst true xs) => (e env).bind fun y => if xs.length < line then some (.nx (setAt i l (.lst true (xs ++ [y])) env)) else none
  | _ => none := (rfl)
@[simp] theorem sPut_ev (i : Nat) (p : EP1) (k e : EE) (env : Env) : sPut i p k e env = (e env).bind fun y => (p env).bind fun l => match getAt i l env with
  | some (.lst true xs) => (k env).bind fun d => match d with
    | .int z => match ixD xs.length z with
      | some j => some (.nx (setAt i l (.lst true (xs.set j y)) env))
      | none => none
    | _ => none
  | _ => none := (rfl)
@[simp] theorem sAugN_ev (i : Nat) (e : EE) (env : Env) : sAugN i e env = (match env[i]? with
  | some (.int a) => (match e env with
    | some (.int b) => some (.nx (env.set i (.int (a + b))))
    | _ => none)
  | _ => none) := (rfl)
@[simp] theorem sAugS_ev (i : Nat) (p : EP1) (k e : EE) (env : Env) : sAugS i p k e env = (p env).bind fun l => match getAt i l env with
  | some (.lst true xs) => (match k env with
    | some (.int z) => (ixD xs.length z).bind fun j => (match xs[j]? with
      | some (.int a) => (match e env with
        | some (.int b) => some (.nx (setAt i l (.lst true (xs.set j (.int (a + b)))) env))
        | _ => none)
      | _ => none)
    | _ => none)
  | _ => none := (rfl)
@[simp] theorem sRetM_ev (f : EM) (env : Env) : sRetM f env = (f env).map fun x => .rt x.1 x.2 := (rfl)
@[simp] theorem sAsgM_ev (f : EM) (t : TgT) (env : Env) : sAsgM f t env = (f env).bind fun x => (t x.1 x.2).map .nx := (rfl)
@[simp] theorem mMv_ev (i : Nat) (p : EP1) (env : Env) : mMv i p env = (p env).bind fun l => (getAt i l env).bind fun d => if d.sh then some (d, env) else some (d, setAt i l .hole env) := (rfl)
@[simp] theorem eChain_ev (g h : D → D → Option D) (a b c : EE) (env : Env) : eChain g h a b c env = (a env).bind fun x => (b env).bind fun y => tst (g x y) ((c env).bind fun z => h y z) (some (.bl false)) := (rfl)
@[simp] theorem gMin_ii (i j : Int) : gMin (.int i) (.int j) = some (.int (if j < i then j else i)) := (rfl)
@[simp] theorem gMax_ii (i j : Int) : gMax (.int i) (.int j) = some (.int (if j > i then j else i)) := (rfl)
@[simp] theorem sClr_ev (i : Nat) (p : EP1) (env : Env) : sClr i p env = (p env).bind fun l => match getAt i l env with
  | some (.lst true xs) => some (.nx (setAt i l (.lst true []) env))
  | _ => none := (rfl)
end Tg

namespace Tg
/-! ## rows of code -/
inductive Row where
  | num (d k n q : Int)
  | copy (d k i q : Int)
  | op (d : Int) (s : List Nat) (k i j q : Int)
  | out (i q : Int)
  | fork (i q p : Int)
  | look (i q : Int)
  | mark (q : Int)
  | back (i : Int)
  deriving DecidableEq
def Row.d : Row → D
  | .num d k n q => .tup [.str [110, 117, 109], .int d, .int k, .int n, .int q]
  | .copy d k i q => .tup [.str [99, 111, 112, 121], .int d, .int k, .int i, .int q]
  | .op d s k i j q => .tup [.str [111, 112], .int d, .str s, .int k, .int i, .int j, .int q]
  | .out i q => .tup [.str [111, 117, 116], .int i, .int q]
  | .fork i q p => .tup [.str [102, 111, 114, 107], .int i, .int q, .int p]
  | .look i q => .tup [.str [108, 111, 111, 107], .int i, .int q]
  | .mark q => .tup [.str [109, 97, 114, 107], .int q]
  | .back i => .tup [.str [98, 97, 99, 107], .int i]
/-- a sign of a written text -/
def Row.okS : Row → Prop
  | .op _ s _ _ _ _ => ∃ c, s = [c] ∧ c < 1114112
  | _ => True
def Row.ways : Row → List Int
  | .num _ _ _ q => [q]
  | .copy _ _ _ q => [q]
  | .op _ _ _ _ _ q => [q]
  | .out _ q => [q]
  | .fork _ q p => [q, p]
  | .look _ q => [q]
  | .mark q => [q]
  | .back _ => []
/-- all places of a row are among the first n -/
def Row.within (n : Nat) (r : Row) : Prop := ∀ q ∈ r.ways, 0 ≤ q ∧ q < n
@[simp] theorem Row.d_sh (r : Row) : r.d.sh = true := by cases r <;> rfl
@[simp] theorem Row.d_fz (r : Row) : r.d.fz = r.d := by cases r <;> rfl
@[simp] theorem Row.d_nf (r : Row) : r.d.nf = true := by cases r <;> rfl
@[simp] theorem rows_shs (rs : List Row) : D.shs (rs.map Row.d) = true := shs_map _ Row.d_sh rs
@[simp] theorem rows_fzs (rs : List Row) : D.fzs (rs.map Row.d) = rs.map Row.d := fzs_map _ Row.d_fz rs
@[simp] theorem rows_nfs (rs : List Row) : D.nfs (rs.map Row.d) = true := nfs_map _ Row.d_nf rs
theorem Row.d_hole (r : Row) : r.d ≠ .hole := by cases r <;> (intro h; cases h)
@[simp] theorem varD_row (r : Row) : varD (some r.d) = some r.d := varD_of r.d_hole
theorem Row.d_tup (r : Row) : ∃ xs, r.d = .tup xs := by cases r <;> exact ⟨_, rfl⟩
theorem Row.d_eqok (r : Row) (h : r.okS) (n : Nat) : r.d.eqok (n + 1) = true := by
  cases r <;> first | (simp [Row.d, D.eqok, D.eqoks]; done) | (obtain ⟨c, rfl, hc⟩ := h; simp [Row.d, D.eqok, D.eqoks, hc])
theorem rows_eqok (rs : List Row) (h : ∀ r ∈ rs, r.okS) (o : Bool) : (D.lst o (rs.map Row.d)).eqok 60 = true := by
  show D.eqoks 59 (rs.map Row.d) = true
  induction rs with
  | nil => rfl
  | cons r rs ih =>
    rw [List.map_cons]
    unfold D.eqoks
    rw [Row.d_eqok r (h r (by simp)) 58, ih fun x hx => h x (by simp [hx])]
    rfl
theorem ints_eqok (ns : List Int) (o : Bool) : (D.lst o (ns.map .int)).eqok 60 = true := eqoks_ints 59 ns
@[simp] theorem eqvs_ints (a b : List Int) : D.eqvs (a.map .int) (b.map .int) = decide (a = b) := by
  induction a generalizing b with
  | nil => cases b <;> simp [D.eqvs]
  | cons x a ih =>
    cases b with
    | nil => simp [D.eqvs]
    | cons y b =>
      show (D.eqv (.int x) (.int y) && D.eqvs (a.map .int) (b.map .int)) = _
      rw [ih]
      show ((x == y) && _) = _
      by_cases h : x = y <;> simp [h]
theorem gEq_ints (o o' : Bool) (a b : List Int) : gEq (.lst o (a.map .int)) (.lst o' (b.map .int)) = some (.bl (decide (a = b))) := by
  rw [gEq_of (ints_eqok a o) (ints_eqok b o')]
  show some (D.bl (D.eqvs _ _)) = _
  rw [eqvs_ints]
theorem gNe_ints (o o' : Bool) (a b : List Int) : gNe (.lst o (a.map .int)) (.lst o' (b.map .int)) = some (.bl (!decide (a = b))) := by
  rw [gNe_of (ints_eqok a o) (ints_eqok b o')]
  show some (D.bl (!D.eqvs _ _)) = _
  rw [eqvs_ints]
theorem eqvs_rows (rs : List Row) (h : ∀ r ∈ rs, r.okS) : D.eqvs (rs.map Row.d) (rs.map Row.d) = true := D.eqvs_refl 59 _ (by have := rows_eqok rs h true; exact this)
theorem gEq_rows (o o' : Bool) (rs : List Row) (h : ∀ r ∈ rs, r.okS) : gEq (.lst o (rs.map Row.d)) (.lst o' (rs.map Row.d)) = some (.bl true) := by
  rw [gEq_of (rows_eqok rs h o) (rows_eqok rs h o')]
  show some (D.bl (D.eqvs _ _)) = _
  rw [eqvs_rows rs h]
/-! ## digits -/
def digs : Int → List Int → List Int
  | n, [] => [n]
  | n, s :: ss => n % s :: digs (n / s) ss
end Tg

namespace Lw
open PySem PySem.Spec L2 Tg RT RZ
abbrev Env := Tg.Env
def top (i : Nat) : Stmt := PySem.Challenge.pw_turnguard_k63_left_out.main.body.getD i (.Pass ⟨0, 0, 0, 0⟩)
abbrev s0 : Stmt := top 1
abbrev s1 : Stmt := top 2
abbrev s2 : Stmt := top 3
abbrev s3 : Stmt := top 4
abbrev s4 : Stmt := top 6
abbrev s5 : Stmt := top 7
abbrev s6 : Stmt := top 8
abbrev s7 : Stmt := top 9
abbrev s8 : Stmt := top 10
abbrev s9 : Stmt := top 11
abbrev s10 : Stmt := top 12
abbrev s11 : Stmt := top 13
abbrev s12 : Stmt := top 14
abbrev s13 : Stmt := top 15
abbrev s14 : Stmt := top 16
abbrev s15 : Stmt := top 17
abbrev Call := Nat → List Tg.D → Option (Tg.D × List Tg.D)
abbrev j_can_go : Nat := 0
abbrev j_closer : Nat := 1
abbrev j_led_past : Nat := 2
abbrev j_without : Nat := 3
abbrev j_law_cell_at : Nat := 4
abbrev j_law_mixed : Nat := 5
abbrev j_law_numbers : Nat := 6
abbrev j_law_spread : Nat := 7
abbrev j_law_pool : Nat := 8
abbrev j_law_goes : Nat := 9
abbrev j_law_row : Nat := 10
abbrev j_law_code : Nat := 11
abbrev j_law_many : Nat := 12
abbrev j_law_moved : Nat := 13
abbrev j_law_with_one : Nat := 14
abbrev j_law : Nat := 15
/-- can_go(code, place) -/
def b_can_go (call mk : Call) : SS := sSeq (sIf (eUn gNot (eChain gLe gLt (eC (.int 0)) (eVar 1) (eUn gLen (eVar 0)))) (sSeq (sRet (eC (.bl false)))
  (sNil))
  (sNil))
  (sSeq (sAsg (eSh (eOp gIx (eVar 0) (eVar 1))) (tgN 2))
  (sSeq (sRet (eAnd (eOp gIn (eOp gIx (eVar 2) (eC (.int 0))) (eTup (eCons (eC (.str [108, 111, 111, 107])) (eCons (eC (.str [109, 97, 114, 107])) (eNil))))) (eOp gEq (eOp gIx (eVar 2) (eUn gNeg (eC (.int 1)))) (eOp gAdd (eVar 1) (eC (.int 1))))))
  (sNil)))
theorem u_can_go (call mk : Call) (env : Env) : b_can_go call mk env = (sSeq (sIf (eUn gNot (eChain gLe gLt (eC (.int 0)) (eVar 1) (eUn gLen (eVar 0)))) (sSeq (sRet (eC (.bl false)))
  (sNil))
  (sNil))
  (sSeq (sAsg (eSh (eOp gIx (eVar 0) (eVar 1))) (tgN 2))
  (sSeq (sRet (eAnd (eOp gIn (eOp gIx (eVar 2) (eC (.int 0))) (eTup (eCons (eC (.str [108, 111, 111, 107])) (eCons (eC (.str [109, 97, 114, 107])) (eNil))))) (eOp gEq (eOp gIx (eVar 2) (eUn gNeg (eC (.int 1)))) (eOp gAdd (eVar 1) (eC (.int 1))))))
  (sNil)))) env := (rfl)
/-- closer(q, place) -/
def b_closer (call mk : Call) : SS := sSeq (sRet (eOp gSub (eVar 0) (eUn gInt (eOp gGt (eVar 0) (eVar 1)))))
  (sNil)
theorem u_closer (call mk : Call) (env : Env) : b_closer call mk env = (sSeq (sRet (eOp gSub (eVar 0) (eUn gInt (eOp gGt (eVar 0) (eVar 1)))))
  (sNil)) env := (rfl)
/-- led_past(row, place) -/
def b_led_past (call mk : Call) : SS := sSeq (sIf (eOp gEq (eOp gIx (eVar 0) (eC (.int 0))) (eC (.str [98, 97, 99, 107]))) (sSeq (sRetM (mMv 0 (qNil)))
  (sNil))
  (sNil))
  (sSeq (sIf (eOp gEq (eOp gIx (eVar 0) (eC (.int 0))) (eC (.str [102, 111, 114, 107]))) (sSeq (sRet (eTup (eCons (eC (.str [102, 111, 114, 107])) (eCons (eSh (eOp gIx (eVar 0) (eC (.int 1)))) (eCons (eCallP (call j_closer) [] (eCons (eSh (eOp gIx (eVar 0) (eC (.int 2)))) (eCons (eSh (eVar 1)) (eNil)))) (eCons (eCallP (call j_closer) [] (eCons (eSh (eOp gIx (eVar 0) (eC (.int 3)))) (eCons (eSh (eVar 1)) (eNil)))) (eNil)))))))
  (sNil))
  (sNil))
  (sSeq (sRet (eOp gAdd (eLent (eCut (eVar 0) (pNone) (pSome (eUn gNeg (eC (.int 1)))))) (eTup (eCons (eCallP (call j_closer) [] (eCons (eSh (eOp gIx (eVar 0) (eUn gNeg (eC (.int 1))))) (eCons (eSh (eVar 1)) (eNil)))) (eNil)))))
  (sNil)))
theorem u_led_past (call mk : Call) (env : Env) : b_led_past call mk env = (sSeq (sIf (eOp gEq (eOp gIx (eVar 0) (eC (.int 0))) (eC (.str [98, 97, 99, 107]))) (sSeq (sRetM (mMv 0 (qNil)))
  (sNil))
  (sNil))
  (sSeq (sIf (eOp gEq (eOp gIx (eVar 0) (eC (.int 0))) (eC (.str [102, 111, 114, 107]))) (sSeq (sRet (eTup (eCons (eC (.str [102, 111, 114, 107])) (eCons (eSh (eOp gIx (eVar 0) (eC (.int 1)))) (eCons (eCallP (call j_closer) [] (eCons (eSh (eOp gIx (eVar 0) (eC (.int 2)))) (eCons (eSh (eVar 1)) (eNil)))) (eCons (eCallP (call j_closer) [] (eCons (eSh (eOp gIx (eVar 0) (eC (.int 3)))) (eCons (eSh (eVar 1)) (eNil)))) (eNil)))))))
  (sNil))
  (sNil))
  (sSeq (sRet (eOp gAdd (eLent (eCut (eVar 0) (pNone) (pSome (eUn gNeg (eC (.int 1)))))) (eTup (eCons (eCallP (call j_closer) [] (eCons (eSh (eOp gIx (eVar 0) (eUn gNeg (eC (.int 1))))) (eCons (eSh (eVar 1)) (eNil)))) (eNil)))))
  (sNil)))) env := (rfl)
/-- without(code, place) -/
def b_without_e0 (call mk : Call) : EE := eCallP (call j_led_past) [] (eCons (eSh (eVar 2)) (eCons (eSh (eVar 1)) (eNil)))
theorem u_without_e0 (call mk : Call) (env : Env) : b_without_e0 call mk env = (eCallP (call j_led_past) [] (eCons (eSh (eVar 2)) (eCons (eSh (eVar 1)) (eNil)))) env := (rfl)
def b_without (call mk : Call) : SS := sSeq (sRet (eLent (eCompW [2] (iSeq (eOp gAdd (eLent (eCut (eVar 0) (pNone) (pSome (eVar 1)))) (eLent (eCut (eVar 0) (pSome (eOp gAdd (eVar 1) (eC (.int 1)))) (pNone))))) (tgN 2) (cYes) (b_without_e0 call mk))))
  (sNil)
theorem u_without (call mk : Call) (env : Env) : b_without call mk env = (sSeq (sRet (eLent (eCompW [2] (iSeq (eOp gAdd (eLent (eCut (eVar 0) (pNone) (pSome (eVar 1)))) (eLent (eCut (eVar 0) (pSome (eOp gAdd (eVar 1) (eC (.int 1)))) (pNone))))) (tgN 2) (cYes) (b_without_e0 call mk))))
  (sNil)) env := (rfl)
/-- _law_cell_at(_law_script, _law_k) -/
def b_law_cell_at (call mk : Call) : SS := sSeq (sIf (eOp gLt (eVar 1) (eUn gLen (eVar 0))) (sSeq (sRet (eSh (eOp gIx (eVar 0) (eVar 1))))
  (sNil))
  (sNil))
  (sSeq (sRet (eC (.int 0)))
  (sNil))
theorem u_law_cell_at (call mk : Call) (env : Env) : b_law_cell_at call mk env = (sSeq (sIf (eOp gLt (eVar 1) (eUn gLen (eVar 0))) (sSeq (sRet (eSh (eOp gIx (eVar 0) (eVar 1))))
  (sNil))
  (sNil))
  (sSeq (sRet (eC (.int 0)))
  (sNil))) env := (rfl)
/-- _law_mixed(_law_cell, _law_k) -/
def b_law_mixed (call mk : Call) : SS := sSeq (sAsg (eOp gMod (eOp gAdd (eOp gAdd (eOp gMul (eOp gMod (eVar 0) (eC (.int 2147483647))) (eOp gAdd (eC (.int 48271)) (eOp gMul (eC (.int 2)) (eVar 1)))) (eOp gMul (eC (.int 7919)) (eVar 1))) (eC (.int 1))) (eC (.int 2147483629))) (tgN 2))
  (sSeq (sRet (eOp gMod (eOp gMul (eVar 2) (eVar 2)) (eC (.int 2147483587))))
  (sNil))
theorem u_law_mixed (call mk : Call) (env : Env) : b_law_mixed call mk env = (sSeq (sAsg (eOp gMod (eOp gAdd (eOp gAdd (eOp gMul (eOp gMod (eVar 0) (eC (.int 2147483647))) (eOp gAdd (eC (.int 48271)) (eOp gMul (eC (.int 2)) (eVar 1)))) (eOp gMul (eC (.int 7919)) (eVar 1))) (eC (.int 1))) (eC (.int 2147483629))) (tgN 2))
  (sSeq (sRet (eOp gMod (eOp gMul (eVar 2) (eVar 2)) (eC (.int 2147483587))))
  (sNil))) env := (rfl)
/-- _law_numbers(_law_script, _law_many_here) -/
def b_law_numbers_e0 (call mk : Call) : EE := eCallP (call j_law_spread) [] (eCons (eSh (eVar 5)) (eNil))
theorem u_law_numbers_e0 (call mk : Call) (env : Env) : b_law_numbers_e0 call mk env = (eCallP (call j_law_spread) [] (eCons (eSh (eVar 5)) (eNil))) env := (rfl)
def b_law_numbers_l1 (call mk : Call) : SS := sClrB [3, 4, 5] (sSeq (sAsg (eOp gAdd (eOp gMul (eOp gIx (eVar 2) (eOp gMod (eVar 3) (eVar 1))) (eC (.int 48271))) (eOp gMod (eVar 4) (eC (.int 2147483647)))) (tgN 5))
  (sSeq (sPut 2 (qNil) (eOp gMod (eVar 3) (eVar 1)) (eOp gMod (eOp gAdd (eVar 5) (eOp gMul (eC (.int 7919)) (eVar 3))) (eC (.int 2147483629))))
  (sNil)))
theorem u_law_numbers_l1 (call mk : Call) (env : Env) : b_law_numbers_l1 call mk env = (sClrB [3, 4, 5] (sSeq (sAsg (eOp gAdd (eOp gMul (eOp gIx (eVar 2) (eOp gMod (eVar 3) (eVar 1))) (eC (.int 48271))) (eOp gMod (eVar 4) (eC (.int 2147483647)))) (tgN 5))
  (sSeq (sPut 2 (qNil) (eOp gMod (eVar 3) (eVar 1)) (eOp gMod (eOp gAdd (eVar 5) (eOp gMul (eC (.int 7919)) (eVar 3))) (eC (.int 2147483629))))
  (sNil)))) env := (rfl)
def b_law_numbers_e2 (call mk : Call) : EE := eOp gAdd (eOp gMul (eC (.int 7919)) (eVar 3)) (eC (.int 1))
theorem u_law_numbers_e2 (call mk : Call) (env : Env) : b_law_numbers_e2 call mk env = (eOp gAdd (eOp gMul (eC (.int 7919)) (eVar 3)) (eC (.int 1))) env := (rfl)
def b_law_numbers_e3 (call mk : Call) : EE := eCallP (call j_law_cell_at) [] (eCons (eSh (eVar 0)) (eCons (eOp gAdd (eC (.int 2)) (eVar 3)) (eNil)))
theorem u_law_numbers_e3 (call mk : Call) (env : Env) : b_law_numbers_e3 call mk env = (eCallP (call j_law_cell_at) [] (eCons (eSh (eVar 0)) (eCons (eOp gAdd (eC (.int 2)) (eVar 3)) (eNil)))) env := (rfl)
def b_law_numbers (call mk : Call) : SS := sSeq (sIf (eOp gEq (eOp gMod (eCallP (call j_law_cell_at) [] (eCons (eSh (eVar 0)) (eCons (eC (.int 0)) (eNil)))) (eC (.int 2))) (eC (.int 1))) (sSeq (sRet (eLent (eCompW [3] (iRng (eVar 1)) (tgN 3) (cYes) (b_law_numbers_e3 call mk))))
  (sNil))
  (sNil))
  (sSeq (sAsg (eLent (eCompW [3] (iRng (eVar 1)) (tgN 3) (cYes) (b_law_numbers_e2 call mk))) (tgN 2))
  (sSeq (sPre [3, 4, 5] (sForI (iEnum (eLent (eCut (eVar 0) (pNone) (pSome (eC (.int 63)))))) (tgX [tgN 3, tgN 4])
  (b_law_numbers_l1 call mk)))
  (sSeq (sRet (eLent (eCompW [5] (iSeq (eSh (eVar 2))) (tgN 5) (cYes) (b_law_numbers_e0 call mk))))
  (sNil))))
theorem u_law_numbers (call mk : Call) (env : Env) : b_law_numbers call mk env = (sSeq (sIf (eOp gEq (eOp gMod (eCallP (call j_law_cell_at) [] (eCons (eSh (eVar 0)) (eCons (eC (.int 0)) (eNil)))) (eC (.int 2))) (eC (.int 1))) (sSeq (sRet (eLent (eCompW [3] (iRng (eVar 1)) (tgN 3) (cYes) (b_law_numbers_e3 call mk))))
  (sNil))
  (sNil))
  (sSeq (sAsg (eLent (eCompW [3] (iRng (eVar 1)) (tgN 3) (cYes) (b_law_numbers_e2 call mk))) (tgN 2))
  (sSeq (sPre [3, 4, 5] (sForI (iEnum (eLent (eCut (eVar 0) (pNone) (pSome (eC (.int 63)))))) (tgX [tgN 3, tgN 4])
  (b_law_numbers_l1 call mk)))
  (sSeq (sRet (eLent (eCompW [5] (iSeq (eSh (eVar 2))) (tgN 5) (cYes) (b_law_numbers_e0 call mk))))
  (sNil))))) env := (rfl)
/-- _law_spread(_law_number) -/
def b_law_spread_l0 (call mk : Call) : SS := sClrB [2] (sSeq (sAsg (eOp gAdd (eOp gMul (eVar 1) (eC (.int 2147483587))) (eCallP (call j_law_mixed) [] (eCons (eSh (eVar 0)) (eCons (eSh (eVar 2)) (eNil))))) (tgN 1))
  (sNil))
theorem u_law_spread_l0 (call mk : Call) (env : Env) : b_law_spread_l0 call mk env = (sClrB [2] (sSeq (sAsg (eOp gAdd (eOp gMul (eVar 1) (eC (.int 2147483587))) (eCallP (call j_law_mixed) [] (eCons (eSh (eVar 0)) (eCons (eSh (eVar 2)) (eNil))))) (tgN 1))
  (sNil))) env := (rfl)
def b_law_spread (call mk : Call) : SS := sSeq (sAsg (eC (.int 0)) (tgN 1))
  (sSeq (sPre [2] (sForI (iRng (eC (.int 5))) (tgN 2)
  (b_law_spread_l0 call mk)))
  (sSeq (sRetM (mMv 1 (qNil)))
  (sNil)))
theorem u_law_spread (call mk : Call) (env : Env) : b_law_spread call mk env = (sSeq (sAsg (eC (.int 0)) (tgN 1))
  (sSeq (sPre [2] (sForI (iRng (eC (.int 5))) (tgN 2)
  (b_law_spread_l0 call mk)))
  (sSeq (sRetM (mMv 1 (qNil)))
  (sNil)))) env := (rfl)
/-- _law_pool(_law_script, _law_most) -/
def b_law_pool_e0 (call mk : Call) : EE := eOp gMod (eOp gAdd (eOp gDiv (eVar 2) (eC (.int 8))) (eOp gMul (eC (.int 3)) (eVar 3))) (eC (.int 8))
theorem u_law_pool_e0 (call mk : Call) (env : Env) : b_law_pool_e0 call mk env = (eOp gMod (eOp gAdd (eOp gDiv (eVar 2) (eC (.int 8))) (eOp gMul (eC (.int 3)) (eVar 3))) (eC (.int 8))) env := (rfl)
def b_law_pool (call mk : Call) : SS := sSeq (sFzA 2 (sAsg (eCallP (call j_law_cell_at) [] (eCons (eSh (eVar 0)) (eCons (eC (.int 1)) (eNil)))) (tgN 2)))
  (sSeq (sIf (eOp gEq (eOp gMod (eCallP (call j_law_cell_at) [] (eCons (eSh (eVar 0)) (eCons (eC (.int 0)) (eNil)))) (eC (.int 2))) (eC (.int 0))) (sSeq (sFzA 2 (sAsg (eCallP (call j_law_mixed) [] (eCons (eSh (eVar 2)) (eCons (eC (.int 8)) (eNil)))) (tgN 2)))
  (sNil))
  (sNil))
  (sSeq (sRet (eLent (eCompW [3] (iRng (eOp gAdd (eC (.int 1)) (eOp gMod (eVar 2) (eVar 1)))) (tgN 3) (cYes) (b_law_pool_e0 call mk))))
  (sNil)))
theorem u_law_pool (call mk : Call) (env : Env) : b_law_pool call mk env = (sSeq (sFzA 2 (sAsg (eCallP (call j_law_cell_at) [] (eCons (eSh (eVar 0)) (eCons (eC (.int 1)) (eNil)))) (tgN 2)))
  (sSeq (sIf (eOp gEq (eOp gMod (eCallP (call j_law_cell_at) [] (eCons (eSh (eVar 0)) (eCons (eC (.int 0)) (eNil)))) (eC (.int 2))) (eC (.int 0))) (sSeq (sFzA 2 (sAsg (eCallP (call j_law_mixed) [] (eCons (eSh (eVar 2)) (eCons (eC (.int 8)) (eNil)))) (tgN 2)))
  (sNil))
  (sNil))
  (sSeq (sRet (eLent (eCompW [3] (iRng (eOp gAdd (eC (.int 1)) (eOp gMod (eVar 2) (eVar 1)))) (tgN 3) (cYes) (b_law_pool_e0 call mk))))
  (sNil)))) env := (rfl)
/-- _law_goes(_law_cell, _law_p, _law_many_here, _law_way) -/
def b_law_goes (call mk : Call) : SS := sSeq (sIf (eOr (eOp gEq (eOp gAdd (eVar 1) (eC (.int 1))) (eVar 2)) (eAnd (eOp gEq (eVar 3) (eC (.int 2))) (eOp gEq (eOp gMod (eVar 0) (eC (.int 4))) (eC (.int 0))))) (sSeq (sRet (eOp gMod (eOp gDiv (eVar 0) (eC (.int 4))) (eVar 2)))
  (sNil))
  (sNil))
  (sSeq (sIf (eAnd (eOp gEq (eVar 3) (eC (.int 1))) (eOp gEq (eOp gMod (eVar 0) (eC (.int 4))) (eC (.int 0)))) (sSeq (sRet (eOp gMin (eOp gSub (eVar 2) (eC (.int 1))) (eOp gAdd (eOp gAdd (eVar 1) (eC (.int 1))) (eOp gMod (eOp gDiv (eVar 0) (eC (.int 4))) (eVar 2)))))
  (sNil))
  (sNil))
  (sSeq (sRet (eOp gAdd (eVar 1) (eC (.int 1))))
  (sNil)))
theorem u_law_goes (call mk : Call) (env : Env) : b_law_goes call mk env = (sSeq (sIf (eOr (eOp gEq (eOp gAdd (eVar 1) (eC (.int 1))) (eVar 2)) (eAnd (eOp gEq (eVar 3) (eC (.int 2))) (eOp gEq (eOp gMod (eVar 0) (eC (.int 4))) (eC (.int 0))))) (sSeq (sRet (eOp gMod (eOp gDiv (eVar 0) (eC (.int 4))) (eVar 2)))
  (sNil))
  (sNil))
  (sSeq (sIf (eAnd (eOp gEq (eVar 3) (eC (.int 1))) (eOp gEq (eOp gMod (eVar 0) (eC (.int 4))) (eC (.int 0)))) (sSeq (sRet (eOp gMin (eOp gSub (eVar 2) (eC (.int 1))) (eOp gAdd (eOp gAdd (eVar 1) (eC (.int 1))) (eOp gMod (eOp gDiv (eVar 0) (eC (.int 4))) (eVar 2)))))
  (sNil))
  (sNil))
  (sSeq (sRet (eOp gAdd (eVar 1) (eC (.int 1))))
  (sNil)))) env := (rfl)
/-- _law_row(_law_cell, _law_p, _law_many_here, _law_pool_here, _law_way) -/
def b_law_row_e0 (call mk : Call) : EE := eSh (eOp gIx (eVar 3) (eOp gMod (eOp gMod (eOp gDiv (eVar 7) (eOp gIx (eTup (eCons (eC (.int 1)) (eCons (eC (.int 8)) (eCons (eC (.int 64)) (eNil))))) (eVar 13))) (eC (.int 8))) (eUn gLen (eVar 3))))
theorem u_law_row_e0 (call mk : Call) (env : Env) : b_law_row_e0 call mk env = (eSh (eOp gIx (eVar 3) (eOp gMod (eOp gMod (eOp gDiv (eVar 7) (eOp gIx (eTup (eCons (eC (.int 1)) (eCons (eC (.int 8)) (eCons (eC (.int 64)) (eNil))))) (eVar 13))) (eC (.int 8))) (eUn gLen (eVar 3))))) env := (rfl)
def b_law_row (call mk : Call) : SS := sSeq (sAsg (eOp gMod (eVar 0) (eC (.int 24))) (tgN 5))
  (sSeq (sAsg (eSh (eOp gIx (eTup (eCons (eC (.int 2)) (eCons (eC (.int 2)) (eCons (eC (.int 0)) (eCons (eC (.int 1)) (eNil)))))) (eOp gMod (eOp gDiv (eVar 0) (eC (.int 24))) (eC (.int 4))))) (tgN 6))
  (sSeq (sAsg (eOp gDiv (eVar 0) (eC (.int 96))) (tgN 7))
  (sSeq (sAsg (eLent (eCompW [13] (iRng (eC (.int 3))) (tgN 13) (cYes) (b_law_row_e0 call mk))) (tgX [tgN 8, tgN 9, tgN 10]))
  (sSeq (sAsg (eCallP (call j_law_goes) [] (eCons (eOp gDiv (eVar 7) (eC (.int 512))) (eCons (eSh (eVar 1)) (eCons (eSh (eVar 2)) (eCons (eSh (eVar 4)) (eNil)))))) (tgN 11))
  (sSeq (sAsg (eOp gDiv (eVar 7) (eOp gMul (eC (.int 512)) (eC (.int 256)))) (tgN 12))
  (sSeq (sIf (eOr (eOp gEq (eVar 5) (eC (.int 0))) (eAnd (eOp gLt (eVar 4) (eC (.int 2))) (eOp gEq (eOp gAdd (eVar 1) (eC (.int 1))) (eVar 2)))) (sSeq (sRet (eTup (eCons (eC (.str [98, 97, 99, 107])) (eCons (eSh (eVar 9)) (eNil)))))
  (sNil))
  (sNil))
  (sSeq (sIf (eOp gLt (eVar 5) (eC (.int 3))) (sSeq (sRet (eTup (eCons (eC (.str [110, 117, 109])) (eCons (eSh (eVar 6)) (eCons (eSh (eVar 8)) (eCons (eOp gMod (eVar 12) (eOp gPow (eC (.int 2)) (eC (.int 48)))) (eCons (eSh (eVar 11)) (eNil))))))))
  (sNil))
  (sNil))
  (sSeq (sIf (eOp gLt (eVar 5) (eC (.int 8))) (sSeq (sRet (eTup (eCons (eC (.str [99, 111, 112, 121])) (eCons (eSh (eVar 6)) (eCons (eSh (eVar 8)) (eCons (eSh (eVar 9)) (eCons (eSh (eVar 11)) (eNil))))))))
  (sNil))
  (sNil))
  (sSeq (sIf (eOp gLt (eVar 5) (eC (.int 14))) (sSeq (sRet (eTup (eCons (eC (.str [111, 112])) (eCons (eSh (eVar 6)) (eCons (eSh (eOp gIx (eC (.str [43, 45, 42, 47, 60, 61, 38, 124, 94])) (eOp gMod (eVar 12) (eC (.int 9))))) (eCons (eSh (eVar 8)) (eCons (eSh (eVar 9)) (eCons (eSh (eVar 10)) (eCons (eSh (eVar 11)) (eNil))))))))))
  (sNil))
  (sNil))
  (sSeq (sIf (eOp gLt (eVar 5) (eC (.int 16))) (sSeq (sRet (eTup (eCons (eC (.str [111, 117, 116])) (eCons (eSh (eVar 9)) (eCons (eSh (eVar 11)) (eNil))))))
  (sNil))
  (sNil))
  (sSeq (sIf (eOp gLt (eVar 5) (eC (.int 18))) (sSeq (sRet (eTup (eCons (eC (.str [102, 111, 114, 107])) (eCons (eSh (eVar 9)) (eCons (eSh (eVar 11)) (eCons (eCallP (call j_law_goes) [] (eCons (eSh (eVar 12)) (eCons (eSh (eVar 1)) (eCons (eSh (eVar 2)) (eCons (eSh (eVar 4)) (eNil)))))) (eNil)))))))
  (sNil))
  (sNil))
  (sSeq (sIf (eOp gLt (eVar 5) (eC (.int 21))) (sSeq (sRet (eTup (eCons (eC (.str [108, 111, 111, 107])) (eCons (eSh (eVar 9)) (eCons (eSh (eVar 11)) (eNil))))))
  (sNil))
  (sNil))
  (sSeq (sRet (eTup (eCons (eC (.str [109, 97, 114, 107])) (eCons (eSh (eVar 11)) (eNil)))))
  (sNil))))))))))))))
theorem u_law_row (call mk : Call) (env : Env) : b_law_row call mk env = (sSeq (sAsg (eOp gMod (eVar 0) (eC (.int 24))) (tgN 5))
  (sSeq (sAsg (eSh (eOp gIx (eTup (eCons (eC (.int 2)) (eCons (eC (.int 2)) (eCons (eC (.int 0)) (eCons (eC (.int 1)) (eNil)))))) (eOp gMod (eOp gDiv (eVar 0) (eC (.int 24))) (eC (.int 4))))) (tgN 6))
  (sSeq (sAsg (eOp gDiv (eVar 0) (eC (.int 96))) (tgN 7))
  (sSeq (sAsg (eLent (eCompW [13] (iRng (eC (.int 3))) (tgN 13) (cYes) (b_law_row_e0 call mk))) (tgX [tgN 8, tgN 9, tgN 10]))
  (sSeq (sAsg (eCallP (call j_law_goes) [] (eCons (eOp gDiv (eVar 7) (eC (.int 512))) (eCons (eSh (eVar 1)) (eCons (eSh (eVar 2)) (eCons (eSh (eVar 4)) (eNil)))))) (tgN 11))
  (sSeq (sAsg (eOp gDiv (eVar 7) (eOp gMul (eC (.int 512)) (eC (.int 256)))) (tgN 12))
  (sSeq (sIf (eOr (eOp gEq (eVar 5) (eC (.int 0))) (eAnd (eOp gLt (eVar 4) (eC (.int 2))) (eOp gEq (eOp gAdd (eVar 1) (eC (.int 1))) (eVar 2)))) (sSeq (sRet (eTup (eCons (eC (.str [98, 97, 99, 107])) (eCons (eSh (eVar 9)) (eNil)))))
  (sNil))
  (sNil))
  (sSeq (sIf (eOp gLt (eVar 5) (eC (.int 3))) (sSeq (sRet (eTup (eCons (eC (.str [110, 117, 109])) (eCons (eSh (eVar 6)) (eCons (eSh (eVar 8)) (eCons (eOp gMod (eVar 12) (eOp gPow (eC (.int 2)) (eC (.int 48)))) (eCons (eSh (eVar 11)) (eNil))))))))
  (sNil))
  (sNil))
  (sSeq (sIf (eOp gLt (eVar 5) (eC (.int 8))) (sSeq (sRet (eTup (eCons (eC (.str [99, 111, 112, 121])) (eCons (eSh (eVar 6)) (eCons (eSh (eVar 8)) (eCons (eSh (eVar 9)) (eCons (eSh (eVar 11)) (eNil))))))))
  (sNil))
  (sNil))
  (sSeq (sIf (eOp gLt (eVar 5) (eC (.int 14))) (sSeq (sRet (eTup (eCons (eC (.str [111, 112])) (eCons (eSh (eVar 6)) (eCons (eSh (eOp gIx (eC (.str [43, 45, 42, 47, 60, 61, 38, 124, 94])) (eOp gMod (eVar 12) (eC (.int 9))))) (eCons (eSh (eVar 8)) (eCons (eSh (eVar 9)) (eCons (eSh (eVar 10)) (eCons (eSh (eVar 11)) (eNil))))))))))
  (sNil))
  (sNil))
  (sSeq (sIf (eOp gLt (eVar 5) (eC (.int 16))) (sSeq (sRet (eTup (eCons (eC (.str [111, 117, 116])) (eCons (eSh (eVar 9)) (eCons (eSh (eVar 11)) (eNil))))))
  (sNil))
  (sNil))
  (sSeq (sIf (eOp gLt (eVar 5) (eC (.int 18))) (sSeq (sRet (eTup (eCons (eC (.str [102, 111, 114, 107])) (eCons (eSh (eVar 9)) (eCons (eSh (eVar 11)) (eCons (eCallP (call j_law_goes) [] (eCons (eSh (eVar 12)) (eCons (eSh (eVar 1)) (eCons (eSh (eVar 2)) (eCons (eSh (eVar 4)) (eNil)))))) (eNil)))))))
  (sNil))
  (sNil))
  (sSeq (sIf (eOp gLt (eVar 5) (eC (.int 21))) (sSeq (sRet (eTup (eCons (eC (.str [108, 111, 111, 107])) (eCons (eSh (eVar 9)) (eCons (eSh (eVar 11)) (eNil))))))
  (sNil))
  (sNil))
  (sSeq (sRet (eTup (eCons (eC (.str [109, 97, 114, 107])) (eCons (eSh (eVar 11)) (eNil)))))
  (sNil))))))))))))))) env := (rfl)
/-- _law_code(_law_script, _law_many_here, _law_way) -/
def b_law_code_e0 (call mk : Call) : EE := eCallP (call j_law_row) [] (eCons (eSh (eOp gIx (eVar 4) (eVar 5))) (eCons (eSh (eVar 5)) (eCons (eSh (eVar 1)) (eCons (eSh (eVar 3)) (eCons (eSh (eVar 2)) (eNil))))))
theorem u_law_code_e0 (call mk : Call) (env : Env) : b_law_code_e0 call mk env = (eCallP (call j_law_row) [] (eCons (eSh (eOp gIx (eVar 4) (eVar 5))) (eCons (eSh (eVar 5)) (eCons (eSh (eVar 1)) (eCons (eSh (eVar 3)) (eCons (eSh (eVar 2)) (eNil))))))) env := (rfl)
def b_law_code (call mk : Call) : SS := sSeq (sFzA 3 (sAsg (eCallP (call j_law_pool) [] (eCons (eSh (eVar 0)) (eCons (eC (.int 8)) (eNil)))) (tgN 3)))
  (sSeq (sFzA 4 (sAsg (eCallP (call j_law_numbers) [] (eCons (eSh (eVar 0)) (eCons (eSh (eVar 1)) (eNil)))) (tgN 4)))
  (sSeq (sRet (eLent (eCompW [5] (iRng (eVar 1)) (tgN 5) (cYes) (b_law_code_e0 call mk))))
  (sNil)))
theorem u_law_code (call mk : Call) (env : Env) : b_law_code call mk env = (sSeq (sFzA 3 (sAsg (eCallP (call j_law_pool) [] (eCons (eSh (eVar 0)) (eCons (eC (.int 8)) (eNil)))) (tgN 3)))
  (sSeq (sFzA 4 (sAsg (eCallP (call j_law_numbers) [] (eCons (eSh (eVar 0)) (eCons (eSh (eVar 1)) (eNil)))) (tgN 4)))
  (sSeq (sRet (eLent (eCompW [5] (iRng (eVar 1)) (tgN 5) (cYes) (b_law_code_e0 call mk))))
  (sNil)))) env := (rfl)
/-- _law_many(_law_cell) -/
def b_law_many (call mk : Call) : SS := sSeq (sIf (eOp gEq (eOp gMod (eOp gDiv (eVar 0) (eC (.int 33))) (eC (.int 8))) (eC (.int 1))) (sSeq (sRet (eOp gAdd (eC (.int 20)) (eOp gMod (eOp gDiv (eVar 0) (eC (.int 264))) (eC (.int 21)))))
  (sNil))
  (sNil))
  (sSeq (sRet (eOp gAdd (eC (.int 2)) (eOp gMod (eOp gDiv (eVar 0) (eC (.int 3))) (eC (.int 11)))))
  (sNil))
theorem u_law_many (call mk : Call) (env : Env) : b_law_many call mk env = (sSeq (sIf (eOp gEq (eOp gMod (eOp gDiv (eVar 0) (eC (.int 33))) (eC (.int 8))) (eC (.int 1))) (sSeq (sRet (eOp gAdd (eC (.int 20)) (eOp gMod (eOp gDiv (eVar 0) (eC (.int 264))) (eC (.int 21)))))
  (sNil))
  (sNil))
  (sSeq (sRet (eOp gAdd (eC (.int 2)) (eOp gMod (eOp gDiv (eVar 0) (eC (.int 3))) (eC (.int 11)))))
  (sNil))) env := (rfl)
/-- _law_moved(_law_row_here, _law_place) -/
def b_law_moved_e0 (call mk : Call) : EE := eOp gSub (eVar 3) (eUn gInt (eOp gGt (eVar 3) (eVar 1)))
theorem u_law_moved_e0 (call mk : Call) (env : Env) : b_law_moved_e0 call mk env = (eOp gSub (eVar 3) (eUn gInt (eOp gGt (eVar 3) (eVar 1)))) env := (rfl)
def b_law_moved (call mk : Call) : SS := sSeq (sIf (eOp gEq (eOp gIx (eVar 0) (eC (.int 0))) (eC (.str [98, 97, 99, 107]))) (sSeq (sRetM (mMv 0 (qNil)))
  (sNil))
  (sNil))
  (sSeq (sFzA 2 (sAsg (eLent (eCompW [3] (iSeq (eLent (eCut (eVar 0) (pSome (eOp gSub (eUn gNeg (eC (.int 1))) (eUn gInt (eOp gEq (eOp gIx (eVar 0) (eC (.int 0))) (eC (.str [102, 111, 114, 107])))))) (pNone)))) (tgN 3) (cYes) (b_law_moved_e0 call mk))) (tgN 2)))
  (sSeq (sRet (eOp gAdd (eLent (eCut (eVar 0) (pNone) (pSome (eOp gSub (eUn gLen (eVar 0)) (eUn gLen (eVar 2)))))) (eUn gTuple (eVar 2))))
  (sNil)))
theorem u_law_moved (call mk : Call) (env : Env) : b_law_moved call mk env = (sSeq (sIf (eOp gEq (eOp gIx (eVar 0) (eC (.int 0))) (eC (.str [98, 97, 99, 107]))) (sSeq (sRetM (mMv 0 (qNil)))
  (sNil))
  (sNil))
  (sSeq (sFzA 2 (sAsg (eLent (eCompW [3] (iSeq (eLent (eCut (eVar 0) (pSome (eOp gSub (eUn gNeg (eC (.int 1))) (eUn gInt (eOp gEq (eOp gIx (eVar 0) (eC (.int 0))) (eC (.str [102, 111, 114, 107])))))) (pNone)))) (tgN 3) (cYes) (b_law_moved_e0 call mk))) (tgN 2)))
  (sSeq (sRet (eOp gAdd (eLent (eCut (eVar 0) (pNone) (pSome (eOp gSub (eUn gLen (eVar 0)) (eUn gLen (eVar 2)))))) (eUn gTuple (eVar 2))))
  (sNil)))) env := (rfl)
/-- _law_with_one(_law_code_here, _law_cell) -/
def b_law_with_one (call mk : Call) : SS := sSeq (sAsg (eOp gMod (eCallP (call j_law_mixed) [] (eCons (eSh (eVar 1)) (eCons (eC (.int 9)) (eNil)))) (eOp gSub (eUn gLen (eVar 0)) (eC (.int 1)))) (tgN 2))
  (sSeq (sAsg (eSh (eOp gIx (eLst (eCons (eTup (eCons (eC (.str [109, 97, 114, 107])) (eCons (eOp gAdd (eVar 2) (eC (.int 1))) (eNil)))) (eCons (eTup (eCons (eC (.str [108, 111, 111, 107])) (eCons (eOp gMod (eCallP (call j_law_mixed) [] (eCons (eSh (eVar 1)) (eCons (eC (.int 10)) (eNil)))) (eC (.int 8))) (eCons (eOp gAdd (eVar 2) (eC (.int 1))) (eNil))))) (eNil)))) (eOp gMod (eCallP (call j_law_mixed) [] (eCons (eSh (eVar 1)) (eCons (eC (.int 11)) (eNil)))) (eC (.int 2))))) (tgN 3))
  (sSeq (sAsg (eOp gMod (eCallP (call j_law_mixed) [] (eCons (eSh (eVar 1)) (eCons (eC (.int 12)) (eNil)))) (eUn gLen (eVar 0))) (tgN 4))
  (sSeq (sAsg (eOp gAdd (eOp gAdd (eLent (eCut (eVar 0) (pNone) (pSome (eVar 2)))) (eLst (eCons (eSh (eVar 3)) (eNil)))) (eLent (eCut (eVar 0) (pSome (eOp gAdd (eVar 2) (eC (.int 1)))) (pNone)))) (tgN 5))
  (sSeq (sIf (eOp gNe (eVar 4) (eVar 2)) (sSeq (sPut 5 (qNil) (eVar 4) (eTup (eCons (eC (.str [102, 111, 114, 107])) (eCons (eOp gMod (eCallP (call j_law_mixed) [] (eCons (eSh (eVar 1)) (eCons (eC (.int 13)) (eNil)))) (eC (.int 8))) (eCons (eSh (eVar 2)) (eCons (eOp gMod (eCallP (call j_law_mixed) [] (eCons (eSh (eVar 1)) (eCons (eC (.int 14)) (eNil)))) (eUn gLen (eVar 0))) (eNil)))))))
  (sNil))
  (sNil))
  (sSeq (sRetM (mMv 5 (qNil)))
  (sNil))))))
theorem u_law_with_one (call mk : Call) (env : Env) : b_law_with_one call mk env = (sSeq (sAsg (eOp gMod (eCallP (call j_law_mixed) [] (eCons (eSh (eVar 1)) (eCons (eC (.int 9)) (eNil)))) (eOp gSub (eUn gLen (eVar 0)) (eC (.int 1)))) (tgN 2))
  (sSeq (sAsg (eSh (eOp gIx (eLst (eCons (eTup (eCons (eC (.str [109, 97, 114, 107])) (eCons (eOp gAdd (eVar 2) (eC (.int 1))) (eNil)))) (eCons (eTup (eCons (eC (.str [108, 111, 111, 107])) (eCons (eOp gMod (eCallP (call j_law_mixed) [] (eCons (eSh (eVar 1)) (eCons (eC (.int 10)) (eNil)))) (eC (.int 8))) (eCons (eOp gAdd (eVar 2) (eC (.int 1))) (eNil))))) (eNil)))) (eOp gMod (eCallP (call j_law_mixed) [] (eCons (eSh (eVar 1)) (eCons (eC (.int 11)) (eNil)))) (eC (.int 2))))) (tgN 3))
  (sSeq (sAsg (eOp gMod (eCallP (call j_law_mixed) [] (eCons (eSh (eVar 1)) (eCons (eC (.int 12)) (eNil)))) (eUn gLen (eVar 0))) (tgN 4))
  (sSeq (sAsg (eOp gAdd (eOp gAdd (eLent (eCut (eVar 0) (pNone) (pSome (eVar 2)))) (eLst (eCons (eSh (eVar 3)) (eNil)))) (eLent (eCut (eVar 0) (pSome (eOp gAdd (eVar 2) (eC (.int 1)))) (pNone)))) (tgN 5))
  (sSeq (sIf (eOp gNe (eVar 4) (eVar 2)) (sSeq (sPut 5 (qNil) (eVar 4) (eTup (eCons (eC (.str [102, 111, 114, 107])) (eCons (eOp gMod (eCallP (call j_law_mixed) [] (eCons (eSh (eVar 1)) (eCons (eC (.int 13)) (eNil)))) (eC (.int 8))) (eCons (eSh (eVar 2)) (eCons (eOp gMod (eCallP (call j_law_mixed) [] (eCons (eSh (eVar 1)) (eCons (eC (.int 14)) (eNil)))) (eUn gLen (eVar 0))) (eNil)))))))
  (sNil))
  (sNil))
  (sSeq (sRetM (mMv 5 (qNil)))
  (sNil))))))) env := (rfl)
/-- law(_law_script) -/
def b_law_e0 (call mk : Call) : EE := eInst .tuple (eVar 10)
theorem u_law_e0 (call mk : Call) (env : Env) : b_law_e0 call mk env = (eInst .tuple (eVar 10)) env := (rfl)
def b_law_e1 (call mk : Call) : EE := eCallP (call j_law_moved) [] (eCons (eSh (eVar 10)) (eCons (eSh (eVar 4)) (eNil)))
theorem u_law_e1 (call mk : Call) (env : Env) : b_law_e1 call mk env = (eCallP (call j_law_moved) [] (eCons (eSh (eVar 10)) (eCons (eSh (eVar 4)) (eNil)))) env := (rfl)
def b_law_l2 (call mk : Call) : SS := sClrB [4, 5, 6, 7, 8, 9] (sSeq (sAsg (eSh (eOp gIx (eVar 2) (eVar 4))) (tgN 5))
  (sSeq (sAsg (eAnd (eOr (eOp gEq (eOp gIx (eVar 5) (eC (.int 0))) (eC (.str [108, 111, 111, 107]))) (eOp gEq (eOp gIx (eVar 5) (eC (.int 0))) (eC (.str [109, 97, 114, 107])))) (eOp gEq (eOp gIx (eVar 5) (eUn gNeg (eC (.int 1)))) (eOp gAdd (eVar 4) (eC (.int 1))))) (tgN 6))
  (sSeq (sFzA 7 (sAsg (eCallP (call j_can_go) [] (eCons (eSh (eVar 3)) (eCons (eSh (eVar 4)) (eNil)))) (tgN 7)))
  (sSeq (sIf (eOr (eUn gNot (eInst .bool (eVar 7))) (eOp gNe (eVar 7) (eVar 6))) (sSeq (sRet (eC (.bl false)))
  (sNil))
  (sNil))
  (sSeq (sClrA [8, 9] (sIf (eVar 6) (sSeq (sAsg (eCallP (call j_without) [] (eCons (eSh (eVar 3)) (eCons (eSh (eVar 4)) (eNil)))) (tgN 8))
  (sSeq (sFzA 9 (sAsg (eLent (eCompW [10] (iSeq (eOp gAdd (eLent (eCut (eVar 2) (pNone) (pSome (eVar 4)))) (eLent (eCut (eVar 2) (pSome (eOp gAdd (eVar 4) (eC (.int 1)))) (pNone))))) (tgN 10) (cYes) (b_law_e1 call mk))) (tgN 9)))
  (sSeq (sIf (eOr (eUn gNot (eInst .list (eVar 8))) (eOp gNe (eVar 8) (eVar 9))) (sSeq (sRet (eC (.bl false)))
  (sNil))
  (sNil))
  (sSeq (sIf (eUn gNot (eUn gAll (eLent (eCompW [10] (iSeq (eSh (eVar 8))) (tgN 10) (cYes) (b_law_e0 call mk))))) (sSeq (sRet (eC (.bl false)))
  (sNil))
  (sNil))
  (sSeq (sClr 8 (qNil))
  (sNil))))))
  (sNil)))
  (sNil))))))
theorem u_law_l2 (call mk : Call) (env : Env) : b_law_l2 call mk env = (sClrB [4, 5, 6, 7, 8, 9] (sSeq (sAsg (eSh (eOp gIx (eVar 2) (eVar 4))) (tgN 5))
  (sSeq (sAsg (eAnd (eOr (eOp gEq (eOp gIx (eVar 5) (eC (.int 0))) (eC (.str [108, 111, 111, 107]))) (eOp gEq (eOp gIx (eVar 5) (eC (.int 0))) (eC (.str [109, 97, 114, 107])))) (eOp gEq (eOp gIx (eVar 5) (eUn gNeg (eC (.int 1)))) (eOp gAdd (eVar 4) (eC (.int 1))))) (tgN 6))
  (sSeq (sFzA 7 (sAsg (eCallP (call j_can_go) [] (eCons (eSh (eVar 3)) (eCons (eSh (eVar 4)) (eNil)))) (tgN 7)))
  (sSeq (sIf (eOr (eUn gNot (eInst .bool (eVar 7))) (eOp gNe (eVar 7) (eVar 6))) (sSeq (sRet (eC (.bl false)))
  (sNil))
  (sNil))
  (sSeq (sClrA [8, 9] (sIf (eVar 6) (sSeq (sAsg (eCallP (call j_without) [] (eCons (eSh (eVar 3)) (eCons (eSh (eVar 4)) (eNil)))) (tgN 8))
  (sSeq (sFzA 9 (sAsg (eLent (eCompW [10] (iSeq (eOp gAdd (eLent (eCut (eVar 2) (pNone) (pSome (eVar 4)))) (eLent (eCut (eVar 2) (pSome (eOp gAdd (eVar 4) (eC (.int 1)))) (pNone))))) (tgN 10) (cYes) (b_law_e1 call mk))) (tgN 9)))
  (sSeq (sIf (eOr (eUn gNot (eInst .list (eVar 8))) (eOp gNe (eVar 8) (eVar 9))) (sSeq (sRet (eC (.bl false)))
  (sNil))
  (sNil))
  (sSeq (sIf (eUn gNot (eUn gAll (eLent (eCompW [10] (iSeq (eSh (eVar 8))) (tgN 10) (cYes) (b_law_e0 call mk))))) (sSeq (sRet (eC (.bl false)))
  (sNil))
  (sNil))
  (sSeq (sClr 8 (qNil))
  (sNil))))))
  (sNil)))
  (sNil))))))) env := (rfl)
def b_law (call mk : Call) : SS := sSeq (sAsg (eOp gDiv (eCallP (call j_law_cell_at) [] (eCons (eSh (eVar 0)) (eCons (eC (.int 0)) (eNil)))) (eC (.int 2))) (tgN 1))
  (sSeq (sFzA 2 (sAsg (eCallP (call j_law_code) [] (eCons (eSh (eVar 0)) (eCons (eCallP (call j_law_many) [] (eCons (eSh (eVar 1)) (eNil))) (eCons (eOp gMod (eVar 1) (eC (.int 3))) (eNil))))) (tgN 2)))
  (sSeq (sIf (eOp gEq (eOp gMod (eCallP (call j_law_mixed) [] (eCons (eCallP (call j_law_cell_at) [] (eCons (eSh (eVar 0)) (eCons (eC (.int 2)) (eNil)))) (eCons (eC (.int 8)) (eNil)))) (eC (.int 2))) (eC (.int 1))) (sSeq (sFzA 2 (sAsg (eCallP (call j_law_with_one) [] (eCons (eSh (eVar 2)) (eCons (eCallP (call j_law_cell_at) [] (eCons (eSh (eVar 0)) (eCons (eC (.int 2)) (eNil)))) (eNil)))) (tgN 2)))
  (sNil))
  (sNil))
  (sSeq (sFzA 3 (sAsg (eUn gList (eVar 2)) (tgN 3)))
  (sSeq (sPre [4, 5, 6, 7, 8, 9] (sForI (iRng (eUn gLen (eVar 2))) (tgN 4)
  (b_law_l2 call mk)))
  (sSeq (sRet (eOp gEq (eVar 3) (eVar 2)))
  (sNil))))))
theorem u_law (call mk : Call) (env : Env) : b_law call mk env = (sSeq (sAsg (eOp gDiv (eCallP (call j_law_cell_at) [] (eCons (eSh (eVar 0)) (eCons (eC (.int 0)) (eNil)))) (eC (.int 2))) (tgN 1))
  (sSeq (sFzA 2 (sAsg (eCallP (call j_law_code) [] (eCons (eSh (eVar 0)) (eCons (eCallP (call j_law_many) [] (eCons (eSh (eVar 1)) (eNil))) (eCons (eOp gMod (eVar 1) (eC (.int 3))) (eNil))))) (tgN 2)))
  (sSeq (sIf (eOp gEq (eOp gMod (eCallP (call j_law_mixed) [] (eCons (eCallP (call j_law_cell_at) [] (eCons (eSh (eVar 0)) (eCons (eC (.int 2)) (eNil)))) (eCons (eC (.int 8)) (eNil)))) (eC (.int 2))) (eC (.int 1))) (sSeq (sFzA 2 (sAsg (eCallP (call j_law_with_one) [] (eCons (eSh (eVar 2)) (eCons (eCallP (call j_law_cell_at) [] (eCons (eSh (eVar 0)) (eCons (eC (.int 2)) (eNil)))) (eNil)))) (tgN 2)))
  (sNil))
  (sNil))
  (sSeq (sFzA 3 (sAsg (eUn gList (eVar 2)) (tgN 3)))
  (sSeq (sPre [4, 5, 6, 7, 8, 9] (sForI (iRng (eUn gLen (eVar 2))) (tgN 4)
  (b_law_l2 call mk)))
  (sSeq (sRet (eOp gEq (eVar 3) (eVar 2)))
  (sNil))))))) env := (rfl)
def T : Nat → Fd := fun j => match j with
  | 0 => ⟨2, 3, [], b_can_go⟩
  | 1 => ⟨2, 2, [], b_closer⟩
  | 2 => ⟨2, 2, [], b_led_past⟩
  | 3 => ⟨2, 3, [], b_without⟩
  | 4 => ⟨2, 2, [], b_law_cell_at⟩
  | 5 => ⟨2, 3, [], b_law_mixed⟩
  | 6 => ⟨2, 6, [], b_law_numbers⟩
  | 7 => ⟨1, 3, [], b_law_spread⟩
  | 8 => ⟨2, 4, [], b_law_pool⟩
  | 9 => ⟨4, 4, [], b_law_goes⟩
  | 10 => ⟨5, 14, [], b_law_row⟩
  | 11 => ⟨3, 6, [], b_law_code⟩
  | 12 => ⟨1, 1, [], b_law_many⟩
  | 13 => ⟨2, 4, [], b_law_moved⟩
  | 14 => ⟨2, 6, [], b_law_with_one⟩
  | 15 => ⟨1, 11, [], b_law⟩
  | _ => ⟨0, 0, [], fun _ _ => sNever⟩
theorem e_can_go (k : Nat) (x0 x1 : Tg.D) : callAt T (k + 1) j_can_go [x0, x1] = finF [] (b_can_go (callAt T k) (mkAt T k) [x0, x1, .hole]) := (rfl)
theorem e_closer (k : Nat) (x0 x1 : Tg.D) : callAt T (k + 1) j_closer [x0, x1] = finF [] (b_closer (callAt T k) (mkAt T k) [x0, x1]) := (rfl)
theorem e_led_past (k : Nat) (x0 x1 : Tg.D) : callAt T (k + 1) j_led_past [x0, x1] = finF [] (b_led_past (callAt T k) (mkAt T k) [x0, x1]) := (rfl)
theorem e_without (k : Nat) (x0 x1 : Tg.D) : callAt T (k + 1) j_without [x0, x1] = finF [] (b_without (callAt T k) (mkAt T k) [x0, x1, .hole]) := (rfl)
theorem e_law_cell_at (k : Nat) (x0 x1 : Tg.D) : callAt T (k + 1) j_law_cell_at [x0, x1] = finF [] (b_law_cell_at (callAt T k) (mkAt T k) [x0, x1]) := (rfl)
theorem e_law_mixed (k : Nat) (x0 x1 : Tg.D) : callAt T (k + 1) j_law_mixed [x0, x1] = finF [] (b_law_mixed (callAt T k) (mkAt T k) [x0, x1, .hole]) := (rfl)
theorem e_law_numbers (k : Nat) (x0 x1 : Tg.D) : callAt T (k + 1) j_law_numbers [x0, x1] = finF [] (b_law_numbers (callAt T k) (mkAt T k) [x0, x1, .hole, .hole, .hole, .hole]) := (rfl)
theorem e_law_spread (k : Nat) (x0 : Tg.D) : callAt T (k + 1) j_law_spread [x0] = finF [] (b_law_spread (callAt T k) (mkAt T k) [x0, .hole, .hole]) := (rfl)
theorem e_law_pool (k : Nat) (x0 x1 : Tg.D) : callAt T (k + 1) j_law_pool [x0, x1] = finF [] (b_law_pool (callAt T k) (mkAt T k) [x0, x1, .hole, .hole]) := (rfl)
theorem e_law_goes (k : Nat) (x0 x1 x2 x3 : Tg.D) : callAt T (k + 1) j_law_goes [x0, x1, x2, x3] = finF [] (b_law_goes (callAt T k) (mkAt T k) [x0, x1, x2, x3]) := (rfl)
theorem e_law_row (k : Nat) (x0 x1 x2 x3 x4 : Tg.D) : callAt T (k + 1) j_law_row [x0, x1, x2, x3, x4] = finF [] (b_law_row (callAt T k) (mkAt T k) [x0, x1, x2, x3, x4, .hole, .hole, .hole, .hole, .hole, .hole, .hole, .hole, .hole]) := (rfl)
theorem e_law_code (k : Nat) (x0 x1 x2 : Tg.D) : callAt T (k + 1) j_law_code [x0, x1, x2] = finF [] (b_law_code (callAt T k) (mkAt T k) [x0, x1, x2, .hole, .hole, .hole]) := (rfl)
theorem e_law_many (k : Nat) (x0 : Tg.D) : callAt T (k + 1) j_law_many [x0] = finF [] (b_law_many (callAt T k) (mkAt T k) [x0]) := (rfl)
theorem e_law_moved (k : Nat) (x0 x1 : Tg.D) : callAt T (k + 1) j_law_moved [x0, x1] = finF [] (b_law_moved (callAt T k) (mkAt T k) [x0, x1, .hole, .hole]) := (rfl)
theorem e_law_with_one (k : Nat) (x0 x1 : Tg.D) : callAt T (k + 1) j_law_with_one [x0, x1] = finF [] (b_law_with_one (callAt T k) (mkAt T k) [x0, x1, .hole, .hole, .hole, .hole]) := (rfl)
theorem e_law (k : Nat) (x0 : Tg.D) : callAt T (k + 1) j_law [x0] = finF [] (b_law (callAt T k) (mkAt T k) [x0, .hole, .hole, .hole, .hole, .hole, .hole, .hole, .hole, .hole, .hole]) := (rfl)
/-- the classes -/
def cl (K : PySem.W.Frag) : Nat → Addr := fun j => match j with
  | _ => 0
/-- the module's names -/
structure Gx (K : PySem.W.Frag) (mg : Str → Option Value) : Prop where
  g_all : mg "all" = none
  g_bool : mg "bool" = none
  g_enumerate : mg "enumerate" = none
  g_int : mg "int" = none
  g_isinstance : mg "isinstance" = none
  g_len : mg "len" = none
  g_list : mg "list" = none
  g_min : mg "min" = none
  g_range : mg "range" = none
  g_tuple : mg "tuple" = none
  ok : True
/-- the defs that are called -/
structure Fx (P : Program) (w : World) (K : PySem.W.Frag) (mg : Str → Option Value) (base : Heap) (k : Nat) : Prop where
  c0_0 : CF P w K mg base (cl K) k "can_go" (callAt T k 0) [] 2 []
  c1_0 : CF P w K mg base (cl K) k "closer" (callAt T k 1) [] 2 []
  c2_0 : CF P w K mg base (cl K) k "led_past" (callAt T k 2) [] 2 []
  c3_0 : CF P w K mg base (cl K) k "without" (callAt T k 3) [] 2 []
  c4_0 : CF P w K mg base (cl K) k "_law_cell_at" (callAt T k 4) [] 2 []
  c5_0 : CF P w K mg base (cl K) k "_law_mixed" (callAt T k 5) [] 2 []
  c6_0 : CF P w K mg base (cl K) k "_law_numbers" (callAt T k 6) [] 2 []
  c7_0 : CF P w K mg base (cl K) k "_law_spread" (callAt T k 7) [] 1 []
  c8_0 : CF P w K mg base (cl K) k "_law_pool" (callAt T k 8) [] 2 []
  c9_0 : CF P w K mg base (cl K) k "_law_goes" (callAt T k 9) [] 4 []
  c10_0 : CF P w K mg base (cl K) k "_law_row" (callAt T k 10) [] 5 []
  c11_0 : CF P w K mg base (cl K) k "_law_code" (callAt T k 11) [] 3 []
  c12_0 : CF P w K mg base (cl K) k "_law_many" (callAt T k 12) [] 1 []
  c13_0 : CF P w K mg base (cl K) k "_law_moved" (callAt T k 13) [] 2 []
  c14_0 : CF P w K mg base (cl K) k "_law_with_one" (callAt T k 14) [] 2 []
  ok : True
section
variable {P : Program} {w : World} {K : PySem.W.Frag} {mg : Str → Option Value} {base : Heap} {k : Nat}
theorem sc0 : FnScope ["code", "place", "row"] ["code", "place"] (defScope s0) := ⟨rfl, rfl, rfl, by decide +kernel, rfl, by decide +kernel, by decide +kernel⟩
theorem sb0 (G : Gx K mg) (h : Fx P w K mg base k) (f : Addr) (cdv : Value) (A : Around) (outer : List PySem.Env) (s : Shared) (H : Hp) (E : XK) (hr : Room k (A.deeper (PyProof.Rows.envOfC "can_go" (defScope s0) s.heap.objs.size f cdv))) :
    Sb (cxOf CX0 P w K mg base ["code", "place", "row"] "can_go" (defScope s0) f cdv A outer s H E).nox (cl K) [] (defBody s0) (b_can_go (callAt T k) (mkAt T k)) := by
  have nd := sc0.nd
  have hu := hr.units
  exact sb_cons (sm_if (te_not (te_chain gc_le gc_lt ((se_int).pk) (pk_var 1) ((se_fn gf_len (by rfl) G.g_len (by decide +kernel) (pk_var 0)).pk))) (sb_cons (sm_ret (se_bl))
    (sb_nil))
    (sb_nil))
    (sb_cons (sm_asg ((pk_ix (pk_var 0) (pk_var 1) (fun _ _ => rfl)).se) (tt_name 2 nd))
    (sb_cons (sm_ret (se_and ((se_cmp go_in (pk_ix (pk_var 2) ((se_int).pk) (fun _ _ => rfl)) ((se_tupN (sa_cons (se_str (l := [108, 111, 111, 107])) (sa_cons (se_str (l := [109, 97, 114, 107])) (sa_nil))) (la_cons (la_cons la_nil))).pk) (by rfl)).pk) (se_one (se_cmp (go_eq hu) (pk_ix (pk_var 2) ((se_neg ((se_int).pk)).pk) (fun _ _ => rfl)) ((se_bin go_add (pk_var 1) ((se_int).pk)).pk) (nomark _)))))
    (sb_nil)))
theorem sc1 : FnScope ["q", "place"] ["q", "place"] (defScope s1) := ⟨rfl, rfl, rfl, by decide +kernel, rfl, by decide +kernel, by decide +kernel⟩
theorem sb1 (G : Gx K mg) (h : Fx P w K mg base k) (f : Addr) (cdv : Value) (A : Around) (outer : List PySem.Env) (s : Shared) (H : Hp) (E : XK) (hr : Room k (A.deeper (PyProof.Rows.envOfC "closer" (defScope s1) s.heap.objs.size f cdv))) :
    Sb (cxOf CX0 P w K mg base ["q", "place"] "closer" (defScope s1) f cdv A outer s H E).nox (cl K) [] (defBody s1) (b_closer (callAt T k) (mkAt T k)) := by
  have nd := sc1.nd
  have hu := hr.units
  exact sb_cons (sm_ret (se_bin go_sub (pk_var 0) ((se_ty gf_int (by rfl) G.g_int (by decide +kernel) ((se_cmp go_gt (pk_var 0) (pk_var 1) (nomark _)).pk)).pk)))
    (sb_nil)
theorem sc2 : FnScope ["row", "place"] ["row", "place"] (defScope s2) := ⟨rfl, rfl, rfl, by decide +kernel, rfl, by decide +kernel, by decide +kernel⟩
theorem sb2 (G : Gx K mg) (h : Fx P w K mg base k) (f : Addr) (cdv : Value) (A : Around) (outer : List PySem.Env) (s : Shared) (H : Hp) (E : XK) (hr : Room k (A.deeper (PyProof.Rows.envOfC "led_past" (defScope s2) s.heap.objs.size f cdv))) :
    Sb (cxOf CX0 P w K mg base ["row", "place"] "led_past" (defScope s2) f cdv A outer s H E).nox (cl K) [] (defBody s2) (b_led_past (callAt T k) (mkAt T k)) := by
  have nd := sc2.nd
  have hu := hr.units
  exact sb_cons (sm_if (te_cmp (go_eq hu) (pk_ix (pk_var 0) ((se_int).pk) (fun _ _ => rfl)) ((se_str (l := [98, 97, 99, 107])).pk) (nomark _)) (sb_cons (sm_retM (sv_mv (pt_var 0)))
    (sb_nil))
    (sb_nil))
    (sb_cons (sm_if (te_cmp (go_eq hu) (pk_ix (pk_var 0) ((se_int).pk) (fun _ _ => rfl)) ((se_str (l := [102, 111, 114, 107])).pk) (nomark _)) (sb_cons (sm_ret (se_tupN (sa_cons (se_str (l := [102, 111, 114, 107])) (sa_cons ((pk_ix (pk_var 0) ((se_int).pk) (fun _ _ => rfl)).se) (sa_cons (se_callP h.c1_0 hr (by rfl) (sa_cons ((pk_ix (pk_var 0) ((se_int).pk) (fun _ _ => rfl)).se) (sa_cons ((pk_var 1).se) (sa_nil)))) (sa_cons (se_callP h.c1_0 hr (by rfl) (sa_cons ((pk_ix (pk_var 0) ((se_int).pk) (fun _ _ => rfl)).se) (sa_cons ((pk_var 1).se) (sa_nil)))) (sa_nil))))) (la_cons (la_cons (la_cons (la_cons la_nil))))))
    (sb_nil))
    (sb_nil))
    (sb_cons (sm_ret (se_bin go_add ((se_lent (se_cut (pk_var 0) (po1_none) (po1_some ((se_neg ((se_int).pk)).pk)))).pk) ((se_tupN (sa_cons (se_callP h.c1_0 hr (by rfl) (sa_cons ((pk_ix (pk_var 0) ((se_neg ((se_int).pk)).pk) (fun _ _ => rfl)).se) (sa_cons ((pk_var 1).se) (sa_nil)))) (sa_nil)) (la_cons la_nil)).pk)))
    (sb_nil)))
theorem sc3 : FnScope ["code", "place", "row"] ["code", "place"] (defScope s3) := ⟨rfl, rfl, rfl, by decide +kernel, rfl, by decide +kernel, by decide +kernel⟩
theorem sb3 (G : Gx K mg) (h : Fx P w K mg base k) (f : Addr) (cdv : Value) (A : Around) (outer : List PySem.Env) (s : Shared) (H : Hp) (E : XK) (hr : Room k (A.deeper (PyProof.Rows.envOfC "without" (defScope s3) s.heap.objs.size f cdv))) :
    Sb (cxOf CX0 P w K mg base ["code", "place", "row"] "without" (defScope s3) f cdv A outer s H E).nox (cl K) [] (defBody s3) (b_without (callAt T k) (mkAt T k)) := by
  have nd := sc3.nd
  have hu := hr.units
  exact sb_cons (sm_ret (se_lc (own := [(("row" : Str), 2)]) (lc_lent (lc_compW (own := [(("row" : Str), 2)]) (ii_seq (se_bin go_add ((se_lent (se_cut (pk_var 0) (po1_none) (po1_some (pk_var 1)))).pk) ((se_lent (se_cut (pk_var 0) (po1_some ((se_bin go_add (pk_var 1) ((se_int).pk)).pk)) (po1_none))).pk))) (fun _ _ _ _ _ => tc_name 2 nd) (fun _ _ _ _ _ => tq_nil) (fun _ _ _ _ _ => se_callP h.c2_0 hr (by rfl) (sa_cons ((pk_var 2).se) (sa_cons ((pk_var 1).se) (sa_nil)))))) nd (show blkC ["code", "place", "row"] (defScope s3) _ _ = true from by decide +kernel)))
    (sb_nil)
theorem sc4 : FnScope ["_law_script", "_law_k"] ["_law_script", "_law_k"] (defScope s4) := ⟨rfl, rfl, rfl, by decide +kernel, rfl, by decide +kernel, by decide +kernel⟩
theorem sb4 (G : Gx K mg) (h : Fx P w K mg base k) (f : Addr) (cdv : Value) (A : Around) (outer : List PySem.Env) (s : Shared) (H : Hp) (E : XK) (hr : Room k (A.deeper (PyProof.Rows.envOfC "_law_cell_at" (defScope s4) s.heap.objs.size f cdv))) :
    Sb (cxOf CX0 P w K mg base ["_law_script", "_law_k"] "_law_cell_at" (defScope s4) f cdv A outer s H E).nox (cl K) [] (defBody s4) (b_law_cell_at (callAt T k) (mkAt T k)) := by
  have nd := sc4.nd
  have hu := hr.units
  exact sb_cons (sm_if (te_cmp go_lt (pk_var 1) ((se_fn gf_len (by rfl) G.g_len (by decide +kernel) (pk_var 0)).pk) (nomark _)) (sb_cons (sm_ret ((pk_ix (pk_var 0) (pk_var 1) (fun _ _ => rfl)).se))
    (sb_nil))
    (sb_nil))
    (sb_cons (sm_ret (se_int))
    (sb_nil))
theorem sc5 : FnScope ["_law_cell", "_law_k", "_law_number"] ["_law_cell", "_law_k"] (defScope s5) := ⟨rfl, rfl, rfl, by decide +kernel, rfl, by decide +kernel, by decide +kernel⟩
theorem sb5 (G : Gx K mg) (h : Fx P w K mg base k) (f : Addr) (cdv : Value) (A : Around) (outer : List PySem.Env) (s : Shared) (H : Hp) (E : XK) (hr : Room k (A.deeper (PyProof.Rows.envOfC "_law_mixed" (defScope s5) s.heap.objs.size f cdv))) :
    Sb (cxOf CX0 P w K mg base ["_law_cell", "_law_k", "_law_number"] "_law_mixed" (defScope s5) f cdv A outer s H E).nox (cl K) [] (defBody s5) (b_law_mixed (callAt T k) (mkAt T k)) := by
  have nd := sc5.nd
  have hu := hr.units
  exact sb_cons (sm_asg (se_bin go_mod ((se_bin go_add ((se_bin go_add ((se_bin go_mul ((se_bin go_mod (pk_var 0) ((se_int).pk)).pk) ((se_bin go_add ((se_int).pk) ((se_bin go_mul ((se_int).pk) (pk_var 1)).pk)).pk)).pk) ((se_bin go_mul ((se_int).pk) (pk_var 1)).pk)).pk) ((se_int).pk)).pk) ((se_int).pk)) (tt_name 2 nd))
    (sb_cons (sm_ret (se_bin go_mod ((se_bin go_mul (pk_var 2) (pk_var 2)).pk) ((se_int).pk)))
    (sb_nil))
theorem sc6 : FnScope ["_law_script", "_law_many_here", "_law_found", "_law_k", "_law_cell", "_law_number"] ["_law_script", "_law_many_here"] (defScope s6) := ⟨rfl, rfl, rfl, by decide +kernel, rfl, by decide +kernel, by decide +kernel⟩
theorem sb6 (G : Gx K mg) (h : Fx P w K mg base k) (f : Addr) (cdv : Value) (A : Around) (outer : List PySem.Env) (s : Shared) (H : Hp) (E : XK) (hr : Room k (A.deeper (PyProof.Rows.envOfC "_law_numbers" (defScope s6) s.heap.objs.size f cdv))) :
    Sb (cxOf CX0 P w K mg base ["_law_script", "_law_many_here", "_law_found", "_law_k", "_law_cell", "_law_number"] "_law_numbers" (defScope s6) f cdv A outer s H E).nox (cl K) [] (defBody s6) (b_law_numbers (callAt T k) (mkAt T k)) := by
  have nd := sc6.nd
  have hu := hr.units
  exact sb_cons (sm_if (te_cmp (go_eq hu) ((se_bin go_mod ((se_callP h.c4_0 hr (by rfl) (sa_cons ((pk_var 0).se) (sa_cons (se_int) (sa_nil)))).pk) ((se_int).pk)).pk) ((se_int).pk) (nomark _)) (sb_cons (sm_ret (se_lc (own := [(("_law_k" : Str), 3)]) (lc_lent (lc_compW (own := [(("_law_k" : Str), 3)]) (ii_rng (pk_var 1) (by rfl) G.g_range) (fun _ _ _ _ _ => tc_name 3 nd) (fun _ _ _ _ _ => tq_nil) (fun _ _ _ _ _ => se_callP h.c4_0 hr (by rfl) (sa_cons ((pk_var 0).se) (sa_cons (se_bin go_add ((se_int).pk) (pk_var 3)) (sa_nil)))))) nd (show blkC ["_law_script", "_law_many_here", "_law_found", "_law_k", "_law_cell", "_law_number"] (defScope s6) _ _ = true from by decide +kernel)))
    (sb_nil))
    (sb_nil))
    (sb_cons (sm_lc (own := [(("_law_k" : Str), 3)]) 2 (lc_lent (lc_compW (own := [(("_law_k" : Str), 3)]) (ii_rng (pk_var 1) (by rfl) G.g_range) (fun _ _ _ _ _ => tc_name 3 nd) (fun _ _ _ _ _ => tq_nil) (fun _ _ _ _ _ => se_bin go_add ((se_bin go_mul ((se_int).pk) (pk_var 3)).pk) ((se_int).pk)))) nd (show blkC ["_law_script", "_law_many_here", "_law_found", "_law_k", "_law_cell", "_law_number"] (defScope s6) _ _ = true from by decide +kernel) (sw_true rfl rfl rfl (by decide +kernel)))
    (sb_cons (sm_pre (sm_for (ii_enum (se_lent (se_cut (pk_var 0) (po1_none) (po1_some ((se_int).pk)))) (by rfl) G.g_enumerate) (tt_tupX (tts_cons (tt_name 3 nd) (tts_cons (tt_name 4 nd) (tts_nil))))
    (sb_clr (sb_cons (sm_asg (se_bin go_add ((se_bin go_mul (pk_ix (pk_var 2) ((se_bin go_mod (pk_var 3) (pk_var 1)).pk) (fun _ _ => rfl)) ((se_int).pk)).pk) ((se_bin go_mod (pk_var 4) ((se_int).pk)).pk)) (tt_name 5 nd))
    (sb_cons (sm_put (se_bin go_mod ((se_bin go_add (pk_var 5) ((se_bin go_mul ((se_int).pk) (pk_var 3)).pk)).pk) ((se_int).pk)) (pt_var 2) ((se_bin go_mod (pk_var 3) (pk_var 1)).pk))
    (sb_nil))))))
    (sb_cons (sm_ret (se_lc (own := [(("_law_number" : Str), 5)]) (lc_lent (lc_compW (own := [(("_law_number" : Str), 5)]) (ii_seq ((pk_var 2).se)) (fun _ _ _ _ _ => tc_name 5 nd) (fun _ _ _ _ _ => tq_nil) (fun _ _ _ _ _ => se_callP h.c7_0 hr (by rfl) (sa_cons ((pk_var 5).se) (sa_nil))))) nd (show blkC ["_law_script", "_law_many_here", "_law_found", "_law_k", "_law_cell", "_law_number"] (defScope s6) _ _ = true from by decide +kernel)))
    (sb_nil))))
theorem sc7 : FnScope ["_law_number", "_law_found", "_law_k"] ["_law_number"] (defScope s7) := ⟨rfl, rfl, rfl, by decide +kernel, rfl, by decide +kernel, by decide +kernel⟩
theorem sb7 (G : Gx K mg) (h : Fx P w K mg base k) (f : Addr) (cdv : Value) (A : Around) (outer : List PySem.Env) (s : Shared) (H : Hp) (E : XK) (hr : Room k (A.deeper (PyProof.Rows.envOfC "_law_spread" (defScope s7) s.heap.objs.size f cdv))) :
    Sb (cxOf CX0 P w K mg base ["_law_number", "_law_found", "_law_k"] "_law_spread" (defScope s7) f cdv A outer s H E).nox (cl K) [] (defBody s7) (b_law_spread (callAt T k) (mkAt T k)) := by
  have nd := sc7.nd
  have hu := hr.units
  exact sb_cons (sm_asg (se_int) (tt_name 1 nd))
    (sb_cons (sm_pre (sm_for (ii_rng ((se_int).pk) (by rfl) G.g_range) (tt_name 2 nd)
    (sb_clr (sb_cons (sm_asg (se_bin go_add ((se_bin go_mul (pk_var 1) ((se_int).pk)).pk) ((se_callP h.c5_0 hr (by rfl) (sa_cons ((pk_var 0).se) (sa_cons ((pk_var 2).se) (sa_nil)))).pk)) (tt_name 1 nd))
    (sb_nil)))))
    (sb_cons (sm_retM (sv_mv (pt_var 1)))
    (sb_nil)))
theorem sc8 : FnScope ["_law_script", "_law_most", "_law_cell", "_law_k"] ["_law_script", "_law_most"] (defScope s8) := ⟨rfl, rfl, rfl, by decide +kernel, rfl, by decide +kernel, by decide +kernel⟩
theorem sb8 (G : Gx K mg) (h : Fx P w K mg base k) (f : Addr) (cdv : Value) (A : Around) (outer : List PySem.Env) (s : Shared) (H : Hp) (E : XK) (hr : Room k (A.deeper (PyProof.Rows.envOfC "_law_pool" (defScope s8) s.heap.objs.size f cdv))) :
    Sb (cxOf CX0 P w K mg base ["_law_script", "_law_most", "_law_cell", "_law_k"] "_law_pool" (defScope s8) f cdv A outer s H E).nox (cl K) [] (defBody s8) (b_law_pool (callAt T k) (mkAt T k)) := by
  have nd := sc8.nd
  have hu := hr.units
  exact sb_cons (sm_fzA (i := 2) (sm_asg (se_callP h.c4_0 hr (by rfl) (sa_cons ((pk_var 0).se) (sa_cons (se_int) (sa_nil)))) (tt_name 2 nd)))
    (sb_cons (sm_if (te_cmp (go_eq hu) ((se_bin go_mod ((se_callP h.c4_0 hr (by rfl) (sa_cons ((pk_var 0).se) (sa_cons (se_int) (sa_nil)))).pk) ((se_int).pk)).pk) ((se_int).pk) (nomark _)) (sb_cons (sm_fzA (i := 2) (sm_asg (se_callP h.c5_0 hr (by rfl) (sa_cons ((pk_var 2).se) (sa_cons (se_int) (sa_nil)))) (tt_name 2 nd)))
    (sb_nil))
    (sb_nil))
    (sb_cons (sm_ret (se_lc (own := [(("_law_k" : Str), 3)]) (lc_lent (lc_compW (own := [(("_law_k" : Str), 3)]) (ii_rng ((se_bin go_add ((se_int).pk) ((se_bin go_mod (pk_var 2) (pk_var 1)).pk)).pk) (by rfl) G.g_range) (fun _ _ _ _ _ => tc_name 3 nd) (fun _ _ _ _ _ => tq_nil) (fun _ _ _ _ _ => se_bin go_mod ((se_bin go_add ((se_bin go_div (pk_var 2) ((se_int).pk)).pk) ((se_bin go_mul ((se_int).pk) (pk_var 3)).pk)).pk) ((se_int).pk)))) nd (show blkC ["_law_script", "_law_most", "_law_cell", "_law_k"] (defScope s8) _ _ = true from by decide +kernel)))
    (sb_nil)))
theorem sc9 : FnScope ["_law_cell", "_law_p", "_law_many_here", "_law_way"] ["_law_cell", "_law_p", "_law_many_here", "_law_way"] (defScope s9) := ⟨rfl, rfl, rfl, by decide +kernel, rfl, by decide +kernel, by decide +kernel⟩
theorem sb9 (G : Gx K mg) (h : Fx P w K mg base k) (f : Addr) (cdv : Value) (A : Around) (outer : List PySem.Env) (s : Shared) (H : Hp) (E : XK) (hr : Room k (A.deeper (PyProof.Rows.envOfC "_law_goes" (defScope s9) s.heap.objs.size f cdv))) :
    Sb (cxOf CX0 P w K mg base ["_law_cell", "_law_p", "_law_many_here", "_law_way"] "_law_goes" (defScope s9) f cdv A outer s H E).nox (cl K) [] (defBody s9) (b_law_goes (callAt T k) (mkAt T k)) := by
  have nd := sc9.nd
  have hu := hr.units
  exact sb_cons (sm_if ((tw_or (te_cmp (go_eq hu) ((se_bin go_add (pk_var 1) ((se_int).pk)).pk) (pk_var 2) (nomark _)) (tw_one_or ((tw_and (te_cmp (go_eq hu) (pk_var 3) ((se_int).pk) (nomark _)) (tw_one_and (te_cmp (go_eq hu) ((se_bin go_mod (pk_var 0) ((se_int).pk)).pk) ((se_int).pk) (nomark _)))).te))).te) (sb_cons (sm_ret (se_bin go_mod ((se_bin go_div (pk_var 0) ((se_int).pk)).pk) (pk_var 2)))
    (sb_nil))
    (sb_nil))
    (sb_cons (sm_if ((tw_and (te_cmp (go_eq hu) (pk_var 3) ((se_int).pk) (nomark _)) (tw_one_and (te_cmp (go_eq hu) ((se_bin go_mod (pk_var 0) ((se_int).pk)).pk) ((se_int).pk) (nomark _)))).te) (sb_cons (sm_ret (se_fn2 (gf_min rfl) (by rfl) G.g_min (by decide +kernel) ((se_bin go_sub (pk_var 2) ((se_int).pk)).pk) ((se_bin go_add ((se_bin go_add (pk_var 1) ((se_int).pk)).pk) ((se_bin go_mod ((se_bin go_div (pk_var 0) ((se_int).pk)).pk) (pk_var 2)).pk)).pk)))
    (sb_nil))
    (sb_nil))
    (sb_cons (sm_ret (se_bin go_add (pk_var 1) ((se_int).pk)))
    (sb_nil)))
theorem sc10 : FnScope ["_law_cell", "_law_p", "_law_many_here", "_law_pool_here", "_law_way", "_law_kind", "_law_side", "_law_rest", "_law_k", "_law_i", "_law_j", "_law_q", "_law_value_of", "_law_x"] ["_law_cell", "_law_p", "_law_many_here", "_law_pool_here", "_law_way"] (defScope s10) := ⟨rfl, rfl, rfl, by decide +kernel, rfl, by decide +kernel, by decide +kernel⟩
theorem sb10 (G : Gx K mg) (h : Fx P w K mg base k) (f : Addr) (cdv : Value) (A : Around) (outer : List PySem.Env) (s : Shared) (H : Hp) (E : XK) (hr : Room k (A.deeper (PyProof.Rows.envOfC "_law_row" (defScope s10) s.heap.objs.size f cdv))) :
    Sb (cxOf CX0 P w K mg base ["_law_cell", "_law_p", "_law_many_here", "_law_pool_here", "_law_way", "_law_kind", "_law_side", "_law_rest", "_law_k", "_law_i", "_law_j", "_law_q", "_law_value_of", "_law_x"] "_law_row" (defScope s10) f cdv A outer s H E).nox (cl K) [] (defBody s10) (b_law_row (callAt T k) (mkAt T k)) := by
  have nd := sc10.nd
  have hu := hr.units
  exact sb_cons (sm_asg (se_bin go_mod (pk_var 0) ((se_int).pk)) (tt_name 5 nd))
    (sb_cons (sm_asg ((pk_ix ((se_tupN (sa_cons (se_int) (sa_cons (se_int) (sa_cons (se_int) (sa_cons (se_int) (sa_nil))))) (la_cons (la_cons (la_cons (la_cons la_nil))))).pk) ((se_bin go_mod ((se_bin go_div (pk_var 0) ((se_int).pk)).pk) ((se_int).pk)).pk) (fun _ _ => rfl)).se) (tt_name 6 nd))
    (sb_cons (sm_asg (se_bin go_div (pk_var 0) ((se_int).pk)) (tt_name 7 nd))
    (sb_cons (sm_asg (se_lc (own := [(("_law_x" : Str), 13)]) (lc_lent (lc_compW (own := [(("_law_x" : Str), 13)]) (ii_rng ((se_int).pk) (by rfl) G.g_range) (fun _ _ _ _ _ => tc_name 13 nd) (fun _ _ _ _ _ => tq_nil) (fun _ _ _ _ _ => (pk_ix (pk_var 3) ((se_bin go_mod ((se_bin go_mod ((se_bin go_div (pk_var 7) (pk_ix ((se_tupN (sa_cons (se_int) (sa_cons (se_int) (sa_cons (se_int) (sa_nil)))) (la_cons (la_cons (la_cons la_nil)))).pk) (pk_var 13) (fun _ _ => rfl))).pk) ((se_int).pk)).pk) ((se_fn gf_len (by rfl) G.g_len (by decide +kernel) (pk_var 3)).pk)).pk) (fun _ _ => rfl)).se))) nd (show blkC ["_law_cell", "_law_p", "_law_many_here", "_law_pool_here", "_law_way", "_law_kind", "_law_side", "_law_rest", "_law_k", "_law_i", "_law_j", "_law_q", "_law_value_of", "_law_x"] (defScope s10) _ _ = true from by decide +kernel)) (tt_tupX (tts_cons (tt_name 8 nd) (tts_cons (tt_name 9 nd) (tts_cons (tt_name 10 nd) (tts_nil))))))
    (sb_cons (sm_asg (se_callP h.c9_0 hr (by rfl) (sa_cons (se_bin go_div (pk_var 7) ((se_int).pk)) (sa_cons ((pk_var 1).se) (sa_cons ((pk_var 2).se) (sa_cons ((pk_var 4).se) (sa_nil)))))) (tt_name 11 nd))
    (sb_cons (sm_asg (se_bin go_div (pk_var 7) ((se_bin go_mul ((se_int).pk) ((se_int).pk)).pk)) (tt_name 12 nd))
    (sb_cons (sm_if ((tw_or (te_cmp (go_eq hu) (pk_var 5) ((se_int).pk) (nomark _)) (tw_one_or ((tw_and (te_cmp go_lt (pk_var 4) ((se_int).pk) (nomark _)) (tw_one_and (te_cmp (go_eq hu) ((se_bin go_add (pk_var 1) ((se_int).pk)).pk) (pk_var 2) (nomark _)))).te))).te) (sb_cons (sm_ret (se_tupN (sa_cons (se_str (l := [98, 97, 99, 107])) (sa_cons ((pk_var 9).se) (sa_nil))) (la_cons (la_cons la_nil))))
    (sb_nil))
    (sb_nil))
    (sb_cons (sm_if (te_cmp go_lt (pk_var 5) ((se_int).pk) (nomark _)) (sb_cons (sm_ret (se_tupN (sa_cons (se_str (l := [110, 117, 109])) (sa_cons ((pk_var 6).se) (sa_cons ((pk_var 8).se) (sa_cons (se_bin go_mod (pk_var 12) ((se_bin go_pow ((se_int).pk) ((se_int).pk)).pk)) (sa_cons ((pk_var 11).se) (sa_nil)))))) (la_cons (la_cons (la_cons (la_cons (la_cons la_nil)))))))
    (sb_nil))
    (sb_nil))
    (sb_cons (sm_if (te_cmp go_lt (pk_var 5) ((se_int).pk) (nomark _)) (sb_cons (sm_ret (se_tupN (sa_cons (se_str (l := [99, 111, 112, 121])) (sa_cons ((pk_var 6).se) (sa_cons ((pk_var 8).se) (sa_cons ((pk_var 9).se) (sa_cons ((pk_var 11).se) (sa_nil)))))) (la_cons (la_cons (la_cons (la_cons (la_cons la_nil)))))))
    (sb_nil))
    (sb_nil))
    (sb_cons (sm_if (te_cmp go_lt (pk_var 5) ((se_int).pk) (nomark _)) (sb_cons (sm_ret (se_tupN (sa_cons (se_str (l := [111, 112])) (sa_cons ((pk_var 6).se) (sa_cons ((pk_ix ((se_str (l := [43, 45, 42, 47, 60, 61, 38, 124, 94])).pk) ((se_bin go_mod (pk_var 12) ((se_int).pk)).pk) (fun _ _ => rfl)).se) (sa_cons ((pk_var 8).se) (sa_cons ((pk_var 9).se) (sa_cons ((pk_var 10).se) (sa_cons ((pk_var 11).se) (sa_nil)))))))) (la_cons (la_cons (la_cons (la_cons (la_cons (la_cons (la_cons la_nil)))))))))
    (sb_nil))
    (sb_nil))
    (sb_cons (sm_if (te_cmp go_lt (pk_var 5) ((se_int).pk) (nomark _)) (sb_cons (sm_ret (se_tupN (sa_cons (se_str (l := [111, 117, 116])) (sa_cons ((pk_var 9).se) (sa_cons ((pk_var 11).se) (sa_nil)))) (la_cons (la_cons (la_cons la_nil)))))
    (sb_nil))
    (sb_nil))
    (sb_cons (sm_if (te_cmp go_lt (pk_var 5) ((se_int).pk) (nomark _)) (sb_cons (sm_ret (se_tupN (sa_cons (se_str (l := [102, 111, 114, 107])) (sa_cons ((pk_var 9).se) (sa_cons ((pk_var 11).se) (sa_cons (se_callP h.c9_0 hr (by rfl) (sa_cons ((pk_var 12).se) (sa_cons ((pk_var 1).se) (sa_cons ((pk_var 2).se) (sa_cons ((pk_var 4).se) (sa_nil)))))) (sa_nil))))) (la_cons (la_cons (la_cons (la_cons la_nil))))))
    (sb_nil))
    (sb_nil))
    (sb_cons (sm_if (te_cmp go_lt (pk_var 5) ((se_int).pk) (nomark _)) (sb_cons (sm_ret (se_tupN (sa_cons (se_str (l := [108, 111, 111, 107])) (sa_cons ((pk_var 9).se) (sa_cons ((pk_var 11).se) (sa_nil)))) (la_cons (la_cons (la_cons la_nil)))))
    (sb_nil))
    (sb_nil))
    (sb_cons (sm_ret (se_tupN (sa_cons (se_str (l := [109, 97, 114, 107])) (sa_cons ((pk_var 11).se) (sa_nil))) (la_cons (la_cons la_nil))))
    (sb_nil))))))))))))))
theorem sc11 : FnScope ["_law_script", "_law_many_here", "_law_way", "_law_pool_here", "_law_numbers_here", "_law_p"] ["_law_script", "_law_many_here", "_law_way"] (defScope s11) := ⟨rfl, rfl, rfl, by decide +kernel, rfl, by decide +kernel, by decide +kernel⟩
theorem sb11 (G : Gx K mg) (h : Fx P w K mg base k) (f : Addr) (cdv : Value) (A : Around) (outer : List PySem.Env) (s : Shared) (H : Hp) (E : XK) (hr : Room k (A.deeper (PyProof.Rows.envOfC "_law_code" (defScope s11) s.heap.objs.size f cdv))) :
    Sb (cxOf CX0 P w K mg base ["_law_script", "_law_many_here", "_law_way", "_law_pool_here", "_law_numbers_here", "_law_p"] "_law_code" (defScope s11) f cdv A outer s H E).nox (cl K) [] (defBody s11) (b_law_code (callAt T k) (mkAt T k)) := by
  have nd := sc11.nd
  have hu := hr.units
  exact sb_cons (sm_fzA (i := 3) (sm_asg (se_callP h.c8_0 hr (by rfl) (sa_cons ((pk_var 0).se) (sa_cons (se_int) (sa_nil)))) (tt_name 3 nd)))
    (sb_cons (sm_fzA (i := 4) (sm_asg (se_callP h.c6_0 hr (by rfl) (sa_cons ((pk_var 0).se) (sa_cons ((pk_var 1).se) (sa_nil)))) (tt_name 4 nd)))
    (sb_cons (sm_ret (se_lc (own := [(("_law_p" : Str), 5)]) (lc_lent (lc_compW (own := [(("_law_p" : Str), 5)]) (ii_rng (pk_var 1) (by rfl) G.g_range) (fun _ _ _ _ _ => tc_name 5 nd) (fun _ _ _ _ _ => tq_nil) (fun _ _ _ _ _ => se_callP h.c10_0 hr (by rfl) (sa_cons ((pk_ix (pk_var 4) (pk_var 5) (fun _ _ => rfl)).se) (sa_cons ((pk_var 5).se) (sa_cons ((pk_var 1).se) (sa_cons ((pk_var 3).se) (sa_cons ((pk_var 2).se) (sa_nil))))))))) nd (show blkC ["_law_script", "_law_many_here", "_law_way", "_law_pool_here", "_law_numbers_here", "_law_p"] (defScope s11) _ _ = true from by decide +kernel)))
    (sb_nil)))
theorem sc12 : FnScope ["_law_cell"] ["_law_cell"] (defScope s12) := ⟨rfl, rfl, rfl, by decide +kernel, rfl, by decide +kernel, by decide +kernel⟩
theorem sb12 (G : Gx K mg) (h : Fx P w K mg base k) (f : Addr) (cdv : Value) (A : Around) (outer : List PySem.Env) (s : Shared) (H : Hp) (E : XK) (hr : Room k (A.deeper (PyProof.Rows.envOfC "_law_many" (defScope s12) s.heap.objs.size f cdv))) :
    Sb (cxOf CX0 P w K mg base ["_law_cell"] "_law_many" (defScope s12) f cdv A outer s H E).nox (cl K) [] (defBody s12) (b_law_many (callAt T k) (mkAt T k)) := by
  have nd := sc12.nd
  have hu := hr.units
  exact sb_cons (sm_if (te_cmp (go_eq hu) ((se_bin go_mod ((se_bin go_div (pk_var 0) ((se_int).pk)).pk) ((se_int).pk)).pk) ((se_int).pk) (nomark _)) (sb_cons (sm_ret (se_bin go_add ((se_int).pk) ((se_bin go_mod ((se_bin go_div (pk_var 0) ((se_int).pk)).pk) ((se_int).pk)).pk)))
    (sb_nil))
    (sb_nil))
    (sb_cons (sm_ret (se_bin go_add ((se_int).pk) ((se_bin go_mod ((se_bin go_div (pk_var 0) ((se_int).pk)).pk) ((se_int).pk)).pk)))
    (sb_nil))
theorem sc13 : FnScope ["_law_row_here", "_law_place", "_law_places", "_law_q"] ["_law_row_here", "_law_place"] (defScope s13) := ⟨rfl, rfl, rfl, by decide +kernel, rfl, by decide +kernel, by decide +kernel⟩
theorem sb13 (G : Gx K mg) (h : Fx P w K mg base k) (f : Addr) (cdv : Value) (A : Around) (outer : List PySem.Env) (s : Shared) (H : Hp) (E : XK) (hr : Room k (A.deeper (PyProof.Rows.envOfC "_law_moved" (defScope s13) s.heap.objs.size f cdv))) :
    Sb (cxOf CX0 P w K mg base ["_law_row_here", "_law_place", "_law_places", "_law_q"] "_law_moved" (defScope s13) f cdv A outer s H E).nox (cl K) [] (defBody s13) (b_law_moved (callAt T k) (mkAt T k)) := by
  have nd := sc13.nd
  have hu := hr.units
  exact sb_cons (sm_if (te_cmp (go_eq hu) (pk_ix (pk_var 0) ((se_int).pk) (fun _ _ => rfl)) ((se_str (l := [98, 97, 99, 107])).pk) (nomark _)) (sb_cons (sm_retM (sv_mv (pt_var 0)))
    (sb_nil))
    (sb_nil))
    (sb_cons (sm_fzA (i := 2) (sm_lc (own := [(("_law_q" : Str), 3)]) 2 (lc_lent (lc_compW (own := [(("_law_q" : Str), 3)]) (ii_seq (se_lent (se_cut (pk_var 0) (po1_some ((se_bin go_sub ((se_neg ((se_int).pk)).pk) ((se_ty gf_int (by rfl) G.g_int (by decide +kernel) ((se_cmp (go_eq hu) (pk_ix (pk_var 0) ((se_int).pk) (fun _ _ => rfl)) ((se_str (l := [102, 111, 114, 107])).pk) (nomark _)).pk)).pk)).pk)) (po1_none)))) (fun _ _ _ _ _ => tc_name 3 nd) (fun _ _ _ _ _ => tq_nil) (fun _ _ _ _ _ => se_bin go_sub (pk_var 3) ((se_ty gf_int (by rfl) G.g_int (by decide +kernel) ((se_cmp go_gt (pk_var 3) (pk_var 1) (nomark _)).pk)).pk)))) nd (show blkC ["_law_row_here", "_law_place", "_law_places", "_law_q"] (defScope s13) _ _ = true from by decide +kernel) (sw_true rfl rfl rfl (by decide +kernel))))
    (sb_cons (sm_ret (se_bin go_add ((se_lent (se_cut (pk_var 0) (po1_none) (po1_some ((se_bin go_sub ((se_fn gf_len (by rfl) G.g_len (by decide +kernel) (pk_var 0)).pk) ((se_fn gf_len (by rfl) G.g_len (by decide +kernel) (pk_var 2)).pk)).pk)))).pk) ((se_ty gf_tuple (by rfl) G.g_tuple (by decide +kernel) (pk_var 2)).pk)))
    (sb_nil)))
theorem sc14 : FnScope ["_law_code_here", "_law_cell", "_law_p", "_law_row_here", "_law_q", "_law_rows"] ["_law_code_here", "_law_cell"] (defScope s14) := ⟨rfl, rfl, rfl, by decide +kernel, rfl, by decide +kernel, by decide +kernel⟩
theorem sb14 (G : Gx K mg) (h : Fx P w K mg base k) (f : Addr) (cdv : Value) (A : Around) (outer : List PySem.Env) (s : Shared) (H : Hp) (E : XK) (hr : Room k (A.deeper (PyProof.Rows.envOfC "_law_with_one" (defScope s14) s.heap.objs.size f cdv))) :
    Sb (cxOf CX0 P w K mg base ["_law_code_here", "_law_cell", "_law_p", "_law_row_here", "_law_q", "_law_rows"] "_law_with_one" (defScope s14) f cdv A outer s H E).nox (cl K) [] (defBody s14) (b_law_with_one (callAt T k) (mkAt T k)) := by
  have nd := sc14.nd
  have hu := hr.units
  exact sb_cons (sm_asg (se_bin go_mod ((se_callP h.c5_0 hr (by rfl) (sa_cons ((pk_var 1).se) (sa_cons (se_int) (sa_nil)))).pk) ((se_bin go_sub ((se_fn gf_len (by rfl) G.g_len (by decide +kernel) (pk_var 0)).pk) ((se_int).pk)).pk)) (tt_name 2 nd))
    (sb_cons (sm_asg ((pk_ix ((se_lstN (sa_cons (se_tupN (sa_cons (se_str (l := [109, 97, 114, 107])) (sa_cons (se_bin go_add (pk_var 2) ((se_int).pk)) (sa_nil))) (la_cons (la_cons la_nil))) (sa_cons (se_tupN (sa_cons (se_str (l := [108, 111, 111, 107])) (sa_cons (se_bin go_mod ((se_callP h.c5_0 hr (by rfl) (sa_cons ((pk_var 1).se) (sa_cons (se_int) (sa_nil)))).pk) ((se_int).pk)) (sa_cons (se_bin go_add (pk_var 2) ((se_int).pk)) (sa_nil)))) (la_cons (la_cons (la_cons la_nil)))) (sa_nil))) (la_cons (la_cons la_nil))).pk) ((se_bin go_mod ((se_callP h.c5_0 hr (by rfl) (sa_cons ((pk_var 1).se) (sa_cons (se_int) (sa_nil)))).pk) ((se_int).pk)).pk) (fun _ _ => rfl)).se) (tt_name 3 nd))
    (sb_cons (sm_asg (se_bin go_mod ((se_callP h.c5_0 hr (by rfl) (sa_cons ((pk_var 1).se) (sa_cons (se_int) (sa_nil)))).pk) ((se_fn gf_len (by rfl) G.g_len (by decide +kernel) (pk_var 0)).pk)) (tt_name 4 nd))
    (sb_cons (sm_asg (se_bin go_add ((se_bin go_add ((se_lent (se_cut (pk_var 0) (po1_none) (po1_some (pk_var 2)))).pk) ((se_lstN (sa_cons ((pk_var 3).se) (sa_nil)) (la_cons la_nil)).pk)).pk) ((se_lent (se_cut (pk_var 0) (po1_some ((se_bin go_add (pk_var 2) ((se_int).pk)).pk)) (po1_none))).pk)) (tt_name 5 nd))
    (sb_cons (sm_if (te_cmp (go_ne hu) (pk_var 4) (pk_var 2) (nomark _)) (sb_cons (sm_put (se_tupN (sa_cons (se_str (l := [102, 111, 114, 107])) (sa_cons (se_bin go_mod ((se_callP h.c5_0 hr (by rfl) (sa_cons ((pk_var 1).se) (sa_cons (se_int) (sa_nil)))).pk) ((se_int).pk)) (sa_cons ((pk_var 2).se) (sa_cons (se_bin go_mod ((se_callP h.c5_0 hr (by rfl) (sa_cons ((pk_var 1).se) (sa_cons (se_int) (sa_nil)))).pk) ((se_fn gf_len (by rfl) G.g_len (by decide +kernel) (pk_var 0)).pk)) (sa_nil))))) (la_cons (la_cons (la_cons (la_cons la_nil))))) (pt_var 5) (pk_var 4))
    (sb_nil))
    (sb_nil))
    (sb_cons (sm_retM (sv_mv (pt_var 5)))
    (sb_nil))))))
theorem sc15 : FnScope ["_law_script", "_law_head", "_law_code_here", "_law_handed", "_law_p", "_law_row_here", "_law_due", "_law_found", "_law_rows", "_law_rest", "_law_one"] ["_law_script"] (defScope s15) := ⟨rfl, rfl, rfl, by decide +kernel, rfl, by decide +kernel, by decide +kernel⟩
theorem sb15 (G : Gx K mg) (h : Fx P w K mg base k) (f : Addr) (cdv : Value) (A : Around) (outer : List PySem.Env) (s : Shared) (H : Hp) (E : XK) (hr : Room k (A.deeper (PyProof.Rows.envOfC "law" (defScope s15) s.heap.objs.size f cdv))) :
    Sb (cxOf CX0 P w K mg base ["_law_script", "_law_head", "_law_code_here", "_law_handed", "_law_p", "_law_row_here", "_law_due", "_law_found", "_law_rows", "_law_rest", "_law_one"] "law" (defScope s15) f cdv A outer s H E).nox (cl K) [] (defBody s15) (b_law (callAt T k) (mkAt T k)) := by
  have nd := sc15.nd
  have hu := hr.units
  exact sb_cons (sm_asg (se_bin go_div ((se_callP h.c4_0 hr (by rfl) (sa_cons ((pk_var 0).se) (sa_cons (se_int) (sa_nil)))).pk) ((se_int).pk)) (tt_name 1 nd))
    (sb_cons (sm_fzA (i := 2) (sm_asg (se_callP h.c11_0 hr (by rfl) (sa_cons ((pk_var 0).se) (sa_cons (se_callP h.c12_0 hr (by rfl) (sa_cons ((pk_var 1).se) (sa_nil))) (sa_cons (se_bin go_mod (pk_var 1) ((se_int).pk)) (sa_nil))))) (tt_name 2 nd)))
    (sb_cons (sm_if (te_cmp (go_eq hu) ((se_bin go_mod ((se_callP h.c5_0 hr (by rfl) (sa_cons (se_callP h.c4_0 hr (by rfl) (sa_cons ((pk_var 0).se) (sa_cons (se_int) (sa_nil)))) (sa_cons (se_int) (sa_nil)))).pk) ((se_int).pk)).pk) ((se_int).pk) (nomark _)) (sb_cons (sm_fzA (i := 2) (sm_asg (se_callP h.c14_0 hr (by rfl) (sa_cons ((pk_var 2).se) (sa_cons (se_callP h.c4_0 hr (by rfl) (sa_cons ((pk_var 0).se) (sa_cons (se_int) (sa_nil)))) (sa_nil)))) (tt_name 2 nd)))
    (sb_nil))
    (sb_nil))
    (sb_cons (sm_fzA (i := 3) (sm_asg (se_ty gf_list (by rfl) G.g_list (by decide +kernel) (pk_var 2)) (tt_name 3 nd)))
    (sb_cons (sm_pre (sm_for (ii_rng ((se_fn gf_len (by rfl) G.g_len (by decide +kernel) (pk_var 2)).pk) (by rfl) G.g_range) (tt_name 4 nd)
    (sb_clr (sb_cons (sm_asg ((pk_ix (pk_var 2) (pk_var 4) (fun _ _ => rfl)).se) (tt_name 5 nd))
    (sb_cons (sm_asg (se_and ((se_or ((se_cmp (go_eq hu) (pk_ix (pk_var 5) ((se_int).pk) (fun _ _ => rfl)) ((se_str (l := [108, 111, 111, 107])).pk) (nomark _)).pk) (se_one (se_cmp (go_eq hu) (pk_ix (pk_var 5) ((se_int).pk) (fun _ _ => rfl)) ((se_str (l := [109, 97, 114, 107])).pk) (nomark _)))).pk) (se_one (se_cmp (go_eq hu) (pk_ix (pk_var 5) ((se_neg ((se_int).pk)).pk) (fun _ _ => rfl)) ((se_bin go_add (pk_var 4) ((se_int).pk)).pk) (nomark _)))) (tt_name 6 nd))
    (sb_cons (sm_fzA (i := 7) (sm_asg (se_callP h.c0_0 hr (by rfl) (sa_cons ((pk_var 3).se) (sa_cons ((pk_var 4).se) (sa_nil)))) (tt_name 7 nd)))
    (sb_cons (sm_if ((tw_or (te_not (te_val ((se_isi (t := .bool) (pk_var 7) (by rfl) G.g_isinstance (by rfl) G.g_bool (by decide +kernel)).pk))) (tw_one_or (te_cmp (go_ne hu) (pk_var 7) (pk_var 6) (nomark _)))).te) (sb_cons (sm_ret (se_bl))
    (sb_nil))
    (sb_nil))
    (sb_cons (sm_clrA (sm_if (te_val (pk_var 6)) (sb_cons (sm_asg (se_callP h.c3_0 hr (by rfl) (sa_cons ((pk_var 3).se) (sa_cons ((pk_var 4).se) (sa_nil)))) (tt_name 8 nd))
    (sb_cons (sm_fzA (i := 9) (sm_lc (own := [(("_law_one" : Str), 10)]) 9 (lc_lent (lc_compW (own := [(("_law_one" : Str), 10)]) (ii_seq (se_bin go_add ((se_lent (se_cut (pk_var 2) (po1_none) (po1_some (pk_var 4)))).pk) ((se_lent (se_cut (pk_var 2) (po1_some ((se_bin go_add (pk_var 4) ((se_int).pk)).pk)) (po1_none))).pk))) (fun _ _ _ _ _ => tc_name 10 nd) (fun _ _ _ _ _ => tq_nil) (fun _ _ _ _ _ => se_callP h.c13_0 hr (by rfl) (sa_cons ((pk_var 10).se) (sa_cons ((pk_var 4).se) (sa_nil)))))) nd (show blkC ["_law_script", "_law_head", "_law_code_here", "_law_handed", "_law_p", "_law_row_here", "_law_due", "_law_found", "_law_rows", "_law_rest", "_law_one"] (defScope s15) _ _ = true from by decide +kernel) (sw_true rfl rfl rfl (by decide +kernel))))
    (sb_cons (sm_if ((tw_or (te_not (te_val ((se_isi (t := .list) (pk_var 8) (by rfl) G.g_isinstance (by rfl) G.g_list (by decide +kernel)).pk))) (tw_one_or (te_cmp (go_ne hu) (pk_var 8) (pk_var 9) (nomark _)))).te) (sb_cons (sm_ret (se_bl))
    (sb_nil))
    (sb_nil))
    (sb_cons (sm_if (te_not (te_val ((se_fn (gf_all rfl) (by rfl) G.g_all (by decide +kernel) ((se_lc (own := [(("_law_one" : Str), 10)]) (lc_lent (lc_compW (own := [(("_law_one" : Str), 10)]) (ii_seq ((pk_var 8).se)) (fun _ _ _ _ _ => tc_name 10 nd) (fun _ _ _ _ _ => tq_nil) (fun _ _ _ _ _ => se_isi (t := .tuple) (pk_var 10) (by rfl) G.g_isinstance (by rfl) G.g_tuple (by decide +kernel)))) nd (show blkC ["_law_script", "_law_head", "_law_code_here", "_law_handed", "_law_p", "_law_row_here", "_law_due", "_law_found", "_law_rows", "_law_rest", "_law_one"] (defScope s15) _ _ = true from by decide +kernel)).pk)).pk))) (sb_cons (sm_ret (se_bl))
    (sb_nil))
    (sb_nil))
    (sb_cons (sm_clr (pt_var 8))
    (sb_nil))))))
    (sb_nil)))
    (sb_nil)))))))))
    (sb_cons (sm_ret (se_cmp (go_eq hu) (pk_var 3) (pk_var 2) (nomark _)))
    (sb_nil))))))
end
/-! ### the head -/
def df0 : He.DefD := ⟨("can_go", none), "can_go", "can_go", defArgs s0, defBody s0, defScope s0, [], []⟩
def df1 : He.DefD := ⟨("closer", none), "closer", "closer", defArgs s1, defBody s1, defScope s1, [], []⟩
def df2 : He.DefD := ⟨("led_past", none), "led_past", "led_past", defArgs s2, defBody s2, defScope s2, [], []⟩
def df3 : He.DefD := ⟨("without", none), "without", "without", defArgs s3, defBody s3, defScope s3, [], []⟩
def df4 : He.DefD := ⟨("_law_cell_at", none), "_law_cell_at", "_law_cell_at", defArgs s4, defBody s4, defScope s4, [], []⟩
def df5 : He.DefD := ⟨("_law_mixed", none), "_law_mixed", "_law_mixed", defArgs s5, defBody s5, defScope s5, [], []⟩
def df6 : He.DefD := ⟨("_law_numbers", none), "_law_numbers", "_law_numbers", defArgs s6, defBody s6, defScope s6, [], []⟩
def df7 : He.DefD := ⟨("_law_spread", none), "_law_spread", "_law_spread", defArgs s7, defBody s7, defScope s7, [], []⟩
def df8 : He.DefD := ⟨("_law_pool", none), "_law_pool", "_law_pool", defArgs s8, defBody s8, defScope s8, [], []⟩
def df9 : He.DefD := ⟨("_law_goes", none), "_law_goes", "_law_goes", defArgs s9, defBody s9, defScope s9, [], []⟩
def df10 : He.DefD := ⟨("_law_row", none), "_law_row", "_law_row", defArgs s10, defBody s10, defScope s10, [], []⟩
def df11 : He.DefD := ⟨("_law_code", none), "_law_code", "_law_code", defArgs s11, defBody s11, defScope s11, [], []⟩
def df12 : He.DefD := ⟨("_law_many", none), "_law_many", "_law_many", defArgs s12, defBody s12, defScope s12, [], []⟩
def df13 : He.DefD := ⟨("_law_moved", none), "_law_moved", "_law_moved", defArgs s13, defBody s13, defScope s13, [], []⟩
def df14 : He.DefD := ⟨("_law_with_one", none), "_law_with_one", "_law_with_one", defArgs s14, defBody s14, defScope s14, [], []⟩
def df15 : He.DefD := ⟨("law", none), "law", "law", defArgs s15, defBody s15, defScope s15, [], []⟩
def fn : List He.DefD := [df0, df1, df2, df3, df4, df5, df6, df7, df8, df9, df10, df11, df12, df13, df14, df15]
def fa : List He.Fa := [.glo "can_go", .glo "closer", .glo "led_past", .glo "without", .glo "_law_cell_at", .glo "_law_mixed", .glo "_law_numbers", .glo "_law_spread", .glo "_law_pool", .glo "_law_goes", .glo "_law_row", .glo "_law_code", .glo "_law_many", .glo "_law_moved", .glo "_law_with_one", .glo "law", .free "all", .free "bool", .free "enumerate", .free "int", .free "isinstance", .free "len", .free "list", .free "min", .free "range", .free "tuple"]
abbrev R : PySem.W.OpenRow := PySem.W.OpenLaw.row PySem.Challenge.rw_turnguard_k63_left_out
abbrev hk : PySem.W.Hook := He.hookD 4 fa fn
def ob (s : PySem.W.SharedT) : He.AlD := He.obsDG 4 fa fn (HandSHeadRun.getT s)
theorem ob_eq (s : PySem.W.SharedT) : ob s = hk.obs s.abs := He.obsDG_eq (HandSHeadRun.getT_eq s)
def nm0 : List PySem.Str := ["can_go", "closer", "led_past", "without", "_law_cell_at", "_law_mixed", "_law_numbers", "_law_spread", "_law_pool", "_law_goes", "_law_row", "_law_code", "_law_many", "_law_moved", "_law_with_one"]
def names : List PySem.Str := nm0
theorem run (w : World) : HandSHeadRun.RunEq R (PySem.W.view R.prog [17]) hk ob 1120 names w := by
  intro os
  kernel_rfl
section
variable {P : Program} {w : World} {K : PySem.W.Frag} {h : Heap} {mg : Str → Option Value}
theorem gx (X : K.In h) (G : h.Ns mainGlobals mg) (c : He.SaysD fa fn K) : Gx K mg where
  g_all := He.free_ok X G (c.fact 16 (f := .free "all") rfl)
  g_bool := He.free_ok X G (c.fact 17 (f := .free "bool") rfl)
  g_enumerate := He.free_ok X G (c.fact 18 (f := .free "enumerate") rfl)
  g_int := He.free_ok X G (c.fact 19 (f := .free "int") rfl)
  g_isinstance := He.free_ok X G (c.fact 20 (f := .free "isinstance") rfl)
  g_len := He.free_ok X G (c.fact 21 (f := .free "len") rfl)
  g_list := He.free_ok X G (c.fact 22 (f := .free "list") rfl)
  g_min := He.free_ok X G (c.fact 23 (f := .free "min") rfl)
  g_range := He.free_ok X G (c.fact 24 (f := .free "range") rfl)
  g_tuple := He.free_ok X G (c.fact 25 (f := .free "tuple") rfl)
  ok := trivial
theorem okAll (X : K.In h) (G : h.Ns mainGlobals mg) (c : He.SaysD fa fn K) (base : Heap) : ∀ k : Nat, Fx P w K mg base k := fun k => by
  induction k with
  | zero => exact {
      c0_0 := cf_mk (ps := ["code", "place"]) c 0 df0 rfl (He.glo_ok X G (c.fact 0 (f := .glo "can_go") rfl)) (fun fd F => fn_zero) (fun fd F => bN_ok (ps := ["code", "place"]) F fun _ _ _ _ _ _ us hl => match us, hl with | [_, _], _ => rfl) (fun _ _ q => callAt_len q)
      c1_0 := cf_mk (ps := ["q", "place"]) c 1 df1 rfl (He.glo_ok X G (c.fact 1 (f := .glo "closer") rfl)) (fun fd F => fn_zero) (fun fd F => bN_ok (ps := ["q", "place"]) F fun _ _ _ _ _ _ us hl => match us, hl with | [_, _], _ => rfl) (fun _ _ q => callAt_len q)
      c2_0 := cf_mk (ps := ["row", "place"]) c 2 df2 rfl (He.glo_ok X G (c.fact 2 (f := .glo "led_past") rfl)) (fun fd F => fn_zero) (fun fd F => bN_ok (ps := ["row", "place"]) F fun _ _ _ _ _ _ us hl => match us, hl with | [_, _], _ => rfl) (fun _ _ q => callAt_len q)
      c3_0 := cf_mk (ps := ["code", "place"]) c 3 df3 rfl (He.glo_ok X G (c.fact 3 (f := .glo "without") rfl)) (fun fd F => fn_zero) (fun fd F => bN_ok (ps := ["code", "place"]) F fun _ _ _ _ _ _ us hl => match us, hl with | [_, _], _ => rfl) (fun _ _ q => callAt_len q)
      c4_0 := cf_mk (ps := ["_law_script", "_law_k"]) c 4 df4 rfl (He.glo_ok X G (c.fact 4 (f := .glo "_law_cell_at") rfl)) (fun fd F => fn_zero) (fun fd F => bN_ok (ps := ["_law_script", "_law_k"]) F fun _ _ _ _ _ _ us hl => match us, hl with | [_, _], _ => rfl) (fun _ _ q => callAt_len q)
      c5_0 := cf_mk (ps := ["_law_cell", "_law_k"]) c 5 df5 rfl (He.glo_ok X G (c.fact 5 (f := .glo "_law_mixed") rfl)) (fun fd F => fn_zero) (fun fd F => bN_ok (ps := ["_law_cell", "_law_k"]) F fun _ _ _ _ _ _ us hl => match us, hl with | [_, _], _ => rfl) (fun _ _ q => callAt_len q)
      c6_0 := cf_mk (ps := ["_law_script", "_law_many_here"]) c 6 df6 rfl (He.glo_ok X G (c.fact 6 (f := .glo "_law_numbers") rfl)) (fun fd F => fn_zero) (fun fd F => bN_ok (ps := ["_law_script", "_law_many_here"]) F fun _ _ _ _ _ _ us hl => match us, hl with | [_, _], _ => rfl) (fun _ _ q => callAt_len q)
      c7_0 := cf_mk (ps := ["_law_number"]) c 7 df7 rfl (He.glo_ok X G (c.fact 7 (f := .glo "_law_spread") rfl)) (fun fd F => fn_zero) (fun fd F => bN_ok (ps := ["_law_number"]) F fun _ _ _ _ _ _ us hl => match us, hl with | [_], _ => rfl) (fun _ _ q => callAt_len q)
      c8_0 := cf_mk (ps := ["_law_script", "_law_most"]) c 8 df8 rfl (He.glo_ok X G (c.fact 8 (f := .glo "_law_pool") rfl)) (fun fd F => fn_zero) (fun fd F => bN_ok (ps := ["_law_script", "_law_most"]) F fun _ _ _ _ _ _ us hl => match us, hl with | [_, _], _ => rfl) (fun _ _ q => callAt_len q)
      c9_0 := cf_mk (ps := ["_law_cell", "_law_p", "_law_many_here", "_law_way"]) c 9 df9 rfl (He.glo_ok X G (c.fact 9 (f := .glo "_law_goes") rfl)) (fun fd F => fn_zero) (fun fd F => bN_ok (ps := ["_law_cell", "_law_p", "_law_many_here", "_law_way"]) F fun _ _ _ _ _ _ us hl => match us, hl with | [_, _, _, _], _ => rfl) (fun _ _ q => callAt_len q)
      c10_0 := cf_mk (ps := ["_law_cell", "_law_p", "_law_many_here", "_law_pool_here", "_law_way"]) c 10 df10 rfl (He.glo_ok X G (c.fact 10 (f := .glo "_law_row") rfl)) (fun fd F => fn_zero) (fun fd F => bN_ok (ps := ["_law_cell", "_law_p", "_law_many_here", "_law_pool_here", "_law_way"]) F fun _ _ _ _ _ _ us hl => match us, hl with | [_, _, _, _, _], _ => rfl) (fun _ _ q => callAt_len q)
      c11_0 := cf_mk (ps := ["_law_script", "_law_many_here", "_law_way"]) c 11 df11 rfl (He.glo_ok X G (c.fact 11 (f := .glo "_law_code") rfl)) (fun fd F => fn_zero) (fun fd F => bN_ok (ps := ["_law_script", "_law_many_here", "_law_way"]) F fun _ _ _ _ _ _ us hl => match us, hl with | [_, _, _], _ => rfl) (fun _ _ q => callAt_len q)
      c12_0 := cf_mk (ps := ["_law_cell"]) c 12 df12 rfl (He.glo_ok X G (c.fact 12 (f := .glo "_law_many") rfl)) (fun fd F => fn_zero) (fun fd F => bN_ok (ps := ["_law_cell"]) F fun _ _ _ _ _ _ us hl => match us, hl with | [_], _ => rfl) (fun _ _ q => callAt_len q)
      c13_0 := cf_mk (ps := ["_law_row_here", "_law_place"]) c 13 df13 rfl (He.glo_ok X G (c.fact 13 (f := .glo "_law_moved") rfl)) (fun fd F => fn_zero) (fun fd F => bN_ok (ps := ["_law_row_here", "_law_place"]) F fun _ _ _ _ _ _ us hl => match us, hl with | [_, _], _ => rfl) (fun _ _ q => callAt_len q)
      c14_0 := cf_mk (ps := ["_law_code_here", "_law_cell"]) c 14 df14 rfl (He.glo_ok X G (c.fact 14 (f := .glo "_law_with_one") rfl)) (fun fd F => fn_zero) (fun fd F => bN_ok (ps := ["_law_code_here", "_law_cell"]) F fun _ _ _ _ _ _ us hl => match us, hl with | [_, _], _ => rfl) (fun _ _ q => callAt_len q)
      ok := trivial }
  | succ k ih => exact {
      c0_0 := cf_mk (ps := ["code", "place"]) c 0 df0 rfl (He.glo_ok X G (c.fact 0 (f := .glo "can_go") rfl)) (fun fd F => fn_ok F sc0 rfl (.inl rfl) (sb0 (gx X G c) ih _)) (fun fd F => bN_ok (ps := ["code", "place"]) F fun _ _ _ _ _ _ us hl => match us, hl with | [_, _], _ => rfl) (fun _ _ q => callAt_len q)
      c1_0 := cf_mk (ps := ["q", "place"]) c 1 df1 rfl (He.glo_ok X G (c.fact 1 (f := .glo "closer") rfl)) (fun fd F => fn_ok F sc1 rfl (.inl rfl) (sb1 (gx X G c) ih _)) (fun fd F => bN_ok (ps := ["q", "place"]) F fun _ _ _ _ _ _ us hl => match us, hl with | [_, _], _ => rfl) (fun _ _ q => callAt_len q)
      c2_0 := cf_mk (ps := ["row", "place"]) c 2 df2 rfl (He.glo_ok X G (c.fact 2 (f := .glo "led_past") rfl)) (fun fd F => fn_ok F sc2 rfl (.inl rfl) (sb2 (gx X G c) ih _)) (fun fd F => bN_ok (ps := ["row", "place"]) F fun _ _ _ _ _ _ us hl => match us, hl with | [_, _], _ => rfl) (fun _ _ q => callAt_len q)
      c3_0 := cf_mk (ps := ["code", "place"]) c 3 df3 rfl (He.glo_ok X G (c.fact 3 (f := .glo "without") rfl)) (fun fd F => fn_ok F sc3 rfl (.inl rfl) (sb3 (gx X G c) ih _)) (fun fd F => bN_ok (ps := ["code", "place"]) F fun _ _ _ _ _ _ us hl => match us, hl with | [_, _], _ => rfl) (fun _ _ q => callAt_len q)
      c4_0 := cf_mk (ps := ["_law_script", "_law_k"]) c 4 df4 rfl (He.glo_ok X G (c.fact 4 (f := .glo "_law_cell_at") rfl)) (fun fd F => fn_ok F sc4 rfl (.inl rfl) (sb4 (gx X G c) ih _)) (fun fd F => bN_ok (ps := ["_law_script", "_law_k"]) F fun _ _ _ _ _ _ us hl => match us, hl with | [_, _], _ => rfl) (fun _ _ q => callAt_len q)
      c5_0 := cf_mk (ps := ["_law_cell", "_law_k"]) c 5 df5 rfl (He.glo_ok X G (c.fact 5 (f := .glo "_law_mixed") rfl)) (fun fd F => fn_ok F sc5 rfl (.inl rfl) (sb5 (gx X G c) ih _)) (fun fd F => bN_ok (ps := ["_law_cell", "_law_k"]) F fun _ _ _ _ _ _ us hl => match us, hl with | [_, _], _ => rfl) (fun _ _ q => callAt_len q)
      c6_0 := cf_mk (ps := ["_law_script", "_law_many_here"]) c 6 df6 rfl (He.glo_ok X G (c.fact 6 (f := .glo "_law_numbers") rfl)) (fun fd F => fn_ok F sc6 rfl (.inl rfl) (sb6 (gx X G c) ih _)) (fun fd F => bN_ok (ps := ["_law_script", "_law_many_here"]) F fun _ _ _ _ _ _ us hl => match us, hl with | [_, _], _ => rfl) (fun _ _ q => callAt_len q)
      c7_0 := cf_mk (ps := ["_law_number"]) c 7 df7 rfl (He.glo_ok X G (c.fact 7 (f := .glo "_law_spread") rfl)) (fun fd F => fn_ok F sc7 rfl (.inl rfl) (sb7 (gx X G c) ih _)) (fun fd F => bN_ok (ps := ["_law_number"]) F fun _ _ _ _ _ _ us hl => match us, hl with | [_], _ => rfl) (fun _ _ q => callAt_len q)
      c8_0 := cf_mk (ps := ["_law_script", "_law_most"]) c 8 df8 rfl (He.glo_ok X G (c.fact 8 (f := .glo "_law_pool") rfl)) (fun fd F => fn_ok F sc8 rfl (.inl rfl) (sb8 (gx X G c) ih _)) (fun fd F => bN_ok (ps := ["_law_script", "_law_most"]) F fun _ _ _ _ _ _ us hl => match us, hl with | [_, _], _ => rfl) (fun _ _ q => callAt_len q)
      c9_0 := cf_mk (ps := ["_law_cell", "_law_p", "_law_many_here", "_law_way"]) c 9 df9 rfl (He.glo_ok X G (c.fact 9 (f := .glo "_law_goes") rfl)) (fun fd F => fn_ok F sc9 rfl (.inl rfl) (sb9 (gx X G c) ih _)) (fun fd F => bN_ok (ps := ["_law_cell", "_law_p", "_law_many_here", "_law_way"]) F fun _ _ _ _ _ _ us hl => match us, hl with | [_, _, _, _], _ => rfl) (fun _ _ q => callAt_len q)
      c10_0 := cf_mk (ps := ["_law_cell", "_law_p", "_law_many_here", "_law_pool_here", "_law_way"]) c 10 df10 rfl (He.glo_ok X G (c.fact 10 (f := .glo "_law_row") rfl)) (fun fd F => fn_ok F sc10 rfl (.inl rfl) (sb10 (gx X G c) ih _)) (fun fd F => bN_ok (ps := ["_law_cell", "_law_p", "_law_many_here", "_law_pool_here", "_law_way"]) F fun _ _ _ _ _ _ us hl => match us, hl with | [_, _, _, _, _], _ => rfl) (fun _ _ q => callAt_len q)
      c11_0 := cf_mk (ps := ["_law_script", "_law_many_here", "_law_way"]) c 11 df11 rfl (He.glo_ok X G (c.fact 11 (f := .glo "_law_code") rfl)) (fun fd F => fn_ok F sc11 rfl (.inl rfl) (sb11 (gx X G c) ih _)) (fun fd F => bN_ok (ps := ["_law_script", "_law_many_here", "_law_way"]) F fun _ _ _ _ _ _ us hl => match us, hl with | [_, _, _], _ => rfl) (fun _ _ q => callAt_len q)
      c12_0 := cf_mk (ps := ["_law_cell"]) c 12 df12 rfl (He.glo_ok X G (c.fact 12 (f := .glo "_law_many") rfl)) (fun fd F => fn_ok F sc12 rfl (.inl rfl) (sb12 (gx X G c) ih _)) (fun fd F => bN_ok (ps := ["_law_cell"]) F fun _ _ _ _ _ _ us hl => match us, hl with | [_], _ => rfl) (fun _ _ q => callAt_len q)
      c13_0 := cf_mk (ps := ["_law_row_here", "_law_place"]) c 13 df13 rfl (He.glo_ok X G (c.fact 13 (f := .glo "_law_moved") rfl)) (fun fd F => fn_ok F sc13 rfl (.inl rfl) (sb13 (gx X G c) ih _)) (fun fd F => bN_ok (ps := ["_law_row_here", "_law_place"]) F fun _ _ _ _ _ _ us hl => match us, hl with | [_, _], _ => rfl) (fun _ _ q => callAt_len q)
      c14_0 := cf_mk (ps := ["_law_code_here", "_law_cell"]) c 14 df14 rfl (He.glo_ok X G (c.fact 14 (f := .glo "_law_with_one") rfl)) (fun fd F => fn_ok F sc14 rfl (.inl rfl) (sb14 (gx X G c) ih _)) (fun fd F => bN_ok (ps := ["_law_code_here", "_law_cell"]) F fun _ _ _ _ _ _ us hl => match us, hl with | [_, _], _ => rfl) (fun _ _ q => callAt_len q)
      ok := trivial }
end
end Lw
namespace Lw
open PySem PySem.Spec L2 Tg
/-- what is left: plain Lean -/
def Main : Prop := ∀ ns : List Int, ns.length ≤ 63 → callAt T 60 15 [.scr ns] = some (.bl true, [])
end Lw
open PySem PySem.W PySem.Calls PyProof.Rows in
theorem Lw.holds (hM : Lw.Main) : PySem.Challenge.rw_turnguard_k63_left_out.Holds := by
  w_on; o_law
  refine HandSHeadRun.head_any (r := OpenLaw.row PySem.Challenge.rw_turnguard_k63_left_out) (q := view (OpenLaw.row PySem.Challenge.rw_turnguard_k63_left_out).prog [17]) (H := Lw.hk) (ob := Lw.ob) (M := 1120) (loose := Lw.names) (d := HandSHeadRun.topDef (OpenLaw.row PySem.Challenge.rw_turnguard_k63_left_out).prog 17) (kwd := []) Lw.ob_eq
    (by kernel_rfl) (fun s => by kernel_rfl) Lw.run (by kernel_rfl) (by kernel_rfl) (by kernel_rfl) (by rfl) (by first | assumption | decide +kernel) (by decide +kernel) ⟨rfl, rfl, rfl, rfl, rfl, by decide +kernel⟩ ?hw ?hc
  case hw => w_witness2
  case hc =>
    refine L2.walk_ofE (l := PySem.Challenge.rw_turnguard_k63_left_out) (n := 63) (k := 60) (x := "_law_script") (CX := L2.CX0) rfl (by decide) (by kernel_rfl) ⟨rfl, by decide, by decide⟩ ?F (fun _ _ _ _ z => z)
    intro w mg fa h Y G hmg0
    obtain ⟨K, KX, c⟩ := Y
    have hmg : mg ("law" : PySem.Str) = some (.ref fa) := by
      have e : (HandSHeadRun.topDef (OpenLaw.row PySem.Challenge.rw_turnguard_k63_left_out).prog 17).name = ("law" : PySem.Str) := by kernel_rfl
      rw [← e]
      exact hmg0
    obtain ⟨fd, F⟩ := c.def_ 15 (d := Lw.df15) rfl
    have e := hmg.symm.trans (He.glo_ok KX G (c.fact 15 (f := .glo "law") rfl))
    cases e
    refine ⟨K, fd, Tg.spF K (Lw.cl K) 1 [] (Tg.callAt Lw.T 60 15), KX, fun s v => L2.FunD.bindsA (ps := ["_law_script"]) F (fun _ _ _ _ _ _ us hl => match us, hl with | [_], _ => rfl) s [v] rfl, fun H a ns hl _ hS => Tg.law_start (hM ns hl) hS, fun base hK hN => ?_⟩
    exact Tg.fn_ok F Lw.sc15 rfl (.inl rfl) (Lw.sb15 (Lw.gx KX G c) (Lw.okAll KX G c base 59) _)


namespace Lw
open Tg
--@ _law_cell_at
theorem cell_at_ev (k : Nat) (ns : List Int) (i : Nat) : callAt T (k + 1) j_law_cell_at [.scr ns, .int i] = some (.int (ns.getD i 0), []) := by
  rw [e_law_cell_at]
  by_cases h : i < ns.length
  · simp [u_law_cell_at, h, atD_nat]
  · simp [u_law_cell_at, h]
--@ _law_mixed (with a place)
theorem mixed_ev (k : Nat) (c n : Int) : ∃ m : Nat, callAt T (k + 1) j_law_mixed [.int c, .int n] = some (.int m, []) := by
  rw [e_law_mixed]
  have a := Int.emod_nonneg c (show (2147483647 : Int) ≠ 0 by decide)
  have b := Int.emod_lt_of_pos c (show (0 : Int) < 2147483647 by decide)
  have g1 : gMul (.int (c % 2147483647)) (.int (48271 + 2 * n)) = some (.int (c % 2147483647 * (48271 + 2 * n))) := gMul_l (by omega) (by omega)
  have g2 : gMul (.int 2) (.int n) = some (.int (2 * n)) := gMul_l (by omega) (by omega)
  have g3 : gMul (.int 7919) (.int n) = some (.int (7919 * n)) := gMul_l (by omega) (by omega)
  generalize ex : (c % 2147483647 * (48271 + 2 * n) + 7919 * n + 1) % 2147483629 = x
  have a2 := Int.emod_nonneg (c % 2147483647 * (48271 + 2 * n) + 7919 * n + 1) (show (2147483629 : Int) ≠ 0 by decide)
  have b2 := Int.emod_lt_of_pos (c % 2147483647 * (48271 + 2 * n) + 7919 * n + 1) (show (0 : Int) < 2147483629 by decide)
  rw [ex] at a2 b2
  have g4 : gMul (.int x) (.int x) = some (.int (x * x)) := gMul_l (by omega) (by omega)
  refine ⟨(x * x % 2147483587).toNat, ?_⟩
  have hn : (((x * x % 2147483587).toNat : Nat) : Int) = x * x % 2147483587 := Int.toNat_of_nonneg (Int.emod_nonneg _ (by decide))
  rw [hn]
  simp -implicitDefEqProofs [u_law_mixed, g1, g2, g3, ex, g4]
--@ _law_spread
theorem spread_loop (k : Nat) (n : Int) : ∀ (is : List Nat) (x : Int), ∃ y : Int, sFor (tgN 2) (b_law_spread_l0 (callAt T (k + 1)) (mkAt T (k + 1))) (is.map fun (i : Nat) => .int (i : Int)) [.int n, .int x, .hole] = some (.nx [.int n, .int y, .hole])
  | [], x => ⟨x, by simp⟩
  | i :: is, x => by
    obtain ⟨m, hm⟩ := mixed_ev k n i
    obtain ⟨y, hy⟩ := spread_loop k n is (x * 2147483587 + m)
    refine ⟨y, ?_⟩
    have g1 : gMul (.int x) (.int 2147483587) = some (.int (x * 2147483587)) := gMul_r (by omega) (by omega)
    rw [List.map_cons, sFor_cons]
    simp -implicitDefEqProofs [u_law_spread_l0, g1, hm, forK]
    simpa using hy
theorem spread_ev (k : Nat) (n : Int) : ∃ m : Int, callAt T (k + 2) j_law_spread [.int n] = some (.int m, []) := by
  obtain ⟨y, hy⟩ := spread_loop k n (List.range 5) 0
  refine ⟨y, ?_⟩
  rw [e_law_spread]
  have sm : small62 (5 : Int) = true := small_nat (n := 5) (by omega)
  simp -implicitDefEqProofs [u_law_spread, sm, hy]
--@ _law_numbers
theorem numbers_loop (call mk : Call) (sc : Tg.D) (many : Nat) (hm : 0 < many) : ∀ (cs : List (Nat × Int)) (xs : List Int), xs.length = many → ∃ ys : List Int, ys.length = many ∧
    sFor (tgX [tgN 3, tgN 4]) (b_law_numbers_l1 call mk) (cs.map fun c => .tup [.int (c.1 : Int), .int c.2]) [sc, .int many, .lst true (xs.map .int), .hole, .hole, .hole] = some (.nx [sc, .int many, .lst true (ys.map .int), .hole, .hole, .hole])
  | [], xs, h => ⟨xs, h, by simp⟩
  | (i, c) :: cs, xs, h => by
    have hlt : i % many < xs.length := by rw [h]; exact Nat.mod_lt _ hm
    have hat : atD (xs.map Tg.D.int) ((i : Int) % (many : Int)) = some (.int xs[i % many]) := by
      have := atD_nat (xs := xs.map Tg.D.int) (i := i % many) (by simpa using hlt)
      simpa using this
    have hix : ixD (xs.map Tg.D.int).length ((i : Int) % (many : Int)) = some (i % many) := by
      have := ixD_nat (n := (xs.map Tg.D.int).length) (i := i % many) (by simpa using hlt)
      simpa using this
    generalize xs[i % many] = old at hat
    have g1 : gMul (.int old) (.int 48271) = some (.int (old * 48271)) := gMul_r (by omega) (by omega)
    have g2 : gMul (.int 7919) (.int i) = some (.int (7919 * i)) := gMul_l (by omega) (by omega)
    obtain ⟨ys, h1, h2⟩ := numbers_loop call mk sc many hm cs (xs.set (i % many) ((old * 48271 + c % 2147483647 + 7919 * i) % 2147483629)) (by simpa using h)
    refine ⟨ys, h1, ?_⟩
    rw [List.map_cons, sFor_cons]
    have hm' : (0 : Int) < (many : Int) := by omega
    rw [List.length_map] at hix
    simp -implicitDefEqProofs [u_law_numbers_l1, hat, hix, g1, g2, hm, hm', forK]
    rw [← List.map_set]
    simpa using h2
theorem numbers_ev (k : Nat) (ns : List Int) (many : Nat) (hm : 0 < many) (hm2 : many < 1000) : ∃ xs : List Int, xs.length = many ∧ callAt T (k + 3) j_law_numbers [.scr ns, .int many] = some (.lst true (xs.map .int), []) := by
  have c0 := cell_at_ev (k + 1) ns 0
  have sm : small62 (many : Int) = true := small_nat (by omega)
  have hl : many < line := by unfold line; omega
  rw [e_law_numbers, u_law_numbers]
  by_cases h : ns.getD 0 0 % 2 = 1
  · obtain ⟨xs, h1, h2, _⟩ := compL_ex (fun _ : Int => True) (fun m => .int m) (tg := tgN 3) (e := b_law_numbers_e3 (callAt T (k + 2)) (mkAt T (k + 2))) (env := [.scr ns, .int many, .hole, .hole, .hole, .hole]) ((List.range many).map fun (i : Nat) => .int (i : Int)) fun x hx => by
      rw [List.mem_map] at hx
      obtain ⟨i, hi, rfl⟩ := hx
      have := cell_at_ev (k + 1) ns (2 + i)
      refine ⟨_, ns.getD (2 + i) 0, rfl, ?_, trivial⟩
      have e : ((2 : Int) + (i : Int)) = ((2 + i : Nat) : Int) := by omega
      simp -implicitDefEqProofs only [u_law_numbers_e3, eCallP_ev, eCons_ev, eSh_ev, eVar_ev, eOp_ev, eC_ev, eNil_ev, List.getElem?_cons_zero, List.getElem?_cons_succ, List.set_cons_zero, List.set_cons_succ, varD_scr, varD_int, Option.bind_some, sh_scr, if_true, gAdd_ii, callF_some, fzs_cons, fzs_nil, fz_scr, fz_int, List.append_nil, e, this]
    refine ⟨xs, by simpa using h2, ?_⟩
    simp at h c0
    simp -implicitDefEqProofs [c0, h, sm, hl, h1]
  · obtain ⟨fs, h1, h2, _⟩ := compL_ex (fun _ : Int => True) (fun m => .int m) (tg := tgN 3) (e := b_law_numbers_e2 (callAt T (k + 2)) (mkAt T (k + 2))) (env := [.scr ns, .int many, .hole, .hole, .hole, .hole]) ((List.range many).map fun (i : Nat) => .int (i : Int)) fun x hx => by
      rw [List.mem_map] at hx
      obtain ⟨i, hi, rfl⟩ := hx
      have g2 : gMul (.int 7919) (.int i) = some (.int (7919 * i)) := gMul_l (by omega) (by omega)
      exact ⟨_, 7919 * i + 1, rfl, by simp -implicitDefEqProofs [u_law_numbers_e2, g2], trivial⟩
    have hfl : fs.length = many := by simpa using h2
    let cs : List (Nat × Int) := (List.range (cutD ns none (some 63)).length).zipWith (fun k x => (k, x)) (cutD ns none (some 63))
    have hcs : (List.range ((cutD ns none (some 63)).map Tg.D.int).length).zipWith (fun (k : Nat) x => Tg.D.tup [.int (k : Int), x]) ((cutD ns none (some 63)).map .int) = cs.map fun c => .tup [.int (c.1 : Int), .int c.2] := by
      apply List.ext_getElem?
      intro i
      simp [cs, List.getElem?_zipWith]
      cases (cutD ns none (some 63))[i]? <;> cases (List.range (cutD ns none (some 63)).length)[i]? <;> rfl
    obtain ⟨ys, h3, h4⟩ := numbers_loop (callAt T (k + 2)) (mkAt T (k + 2)) (.scr ns) many hm cs fs hfl
    obtain ⟨zs, h5, h6, _⟩ := compL_ex (fun _ : Int => True) (fun m => .int m) (tg := tgN 5) (e := b_law_numbers_e0 (callAt T (k + 2)) (mkAt T (k + 2))) (env := [.scr ns, .int many, .lst false (ys.map .int), .hole, .hole, .hole]) (ys.map .int) fun x hx => by
      rw [List.mem_map] at hx
      obtain ⟨i, hi, rfl⟩ := hx
      obtain ⟨m, hm⟩ := spread_ev k i
      exact ⟨_, m, rfl, by simp -implicitDefEqProofs [u_law_numbers_e0, hm], trivial⟩
    have hzl : zs.length = many := by rw [h6, List.length_map, h3]
    refine ⟨zs, hzl, ?_⟩
    have hyl : ys.length < line := by rw [h3]; exact hl
    simp at h c0
    have hc2 := hcs
    rw [List.length_map] at hc2
    simp -implicitDefEqProofs [c0, h, sm, hl, h1, hc2, h4]
    simp -implicitDefEqProofs [hyl, h5]
--@ _law_pool
theorem pool_ev (k : Nat) (ns : List Int) : ∃ xs : List Int, 0 < xs.length ∧ xs.length ≤ 8 ∧ callAt T (k + 2) j_law_pool [.scr ns, .int 8] = some (.lst true (xs.map .int), []) := by
  have c0 := cell_at_ev k ns 0
  have c1 := cell_at_ev k ns 1
  have key : ∀ c : Int, ∃ xs : List Int, 0 < xs.length ∧ xs.length ≤ 8 ∧ compL (tgN 3) cYes (b_law_pool_e0 (callAt T (k + 1)) (mkAt T (k + 1))) [.scr ns, .int 8, .int c, .hole] ((List.range (1 + c % 8).toNat).map fun (i : Nat) => .int (i : Int)) = some (xs.map .int) ∧ small62 (1 + c % 8) = true ∧ (1 + c % 8).toNat < line := fun c => by
    have a := Int.emod_nonneg c (show (8 : Int) ≠ 0 by decide)
    have b := Int.emod_lt_of_pos c (show (0 : Int) < 8 by decide)
    obtain ⟨xs, h1, h2, _⟩ := compL_ex (fun _ : Int => True) (fun m => .int m) (tg := tgN 3) (e := b_law_pool_e0 (callAt T (k + 1)) (mkAt T (k + 1))) (env := [.scr ns, .int 8, .int c, .hole]) ((List.range (1 + c % 8).toNat).map fun (i : Nat) => .int (i : Int)) fun x hx => by
      rw [List.mem_map] at hx
      obtain ⟨i, hi, rfl⟩ := hx
      have g2 : gMul (.int 3) (.int i) = some (.int (3 * i)) := gMul_l (by omega) (by omega)
      exact ⟨_, (c / 8 + 3 * i) % 8, rfl, by simp -implicitDefEqProofs [u_law_pool_e0, g2], trivial⟩
    rw [List.length_map, List.length_range] at h2
    refine ⟨xs, by omega, by omega, h1, ?_, by unfold line; omega⟩
    have := small_nat (n := (1 + c % 8).toNat) (by omega)
    rwa [Int.toNat_of_nonneg (by omega)] at this
  rw [e_law_pool, u_law_pool]
  simp at c0 c1
  by_cases h : ns[0]?.getD 0 % 2 = 0
  · obtain ⟨m, hm⟩ := mixed_ev k (ns[1]?.getD 0) 8
    obtain ⟨xs, h1, h2, h3, h4, h5⟩ := key m
    refine ⟨xs, h1, h2, ?_⟩
    simp -implicitDefEqProofs [c0, c1, h, hm, h4, h5, h3]
  · obtain ⟨xs, h1, h2, h3, h4, h5⟩ := key (ns[1]?.getD 0)
    refine ⟨xs, h1, h2, ?_⟩
    simp -implicitDefEqProofs [c0, c1, h, h4, h5, h3]
--@ _law_goes
theorem goes_ev (k : Nat) (c p : Int) (many : Nat) (hm : 0 < many) (way : Int) (hp : 0 ≤ p ∧ p < many) : ∃ q : Int, (0 ≤ q ∧ q < many) ∧ callAt T (k + 1) j_law_goes [.int c, .int p, .int many, .int way] = some (.int q, []) := by
  have hm' : (0 : Int) < many := by omega
  have a := Int.emod_nonneg (c / 4) (show (many : Int) ≠ 0 by omega)
  have b := Int.emod_lt_of_pos (c / 4) hm'
  rw [e_law_goes, u_law_goes]
  by_cases h1 : p + 1 = many
  · exact ⟨c / 4 % many, ⟨a, b⟩, by simp -implicitDefEqProofs [h1, hm, hm']⟩
  · by_cases h4 : c % 4 = 0
    · by_cases h2 : way = 2
      · exact ⟨c / 4 % many, ⟨a, b⟩, by simp -implicitDefEqProofs [h1, h2, h4, hm, hm']⟩
      · by_cases h3 : way = 1
        · refine ⟨if p + 1 + c / 4 % many < many - 1 then p + 1 + c / 4 % many else many - 1, by split <;> omega, by simp -implicitDefEqProofs [h1, h3, h4, hm, hm']⟩
        · exact ⟨p + 1, by omega, by simp -implicitDefEqProofs [h1, h2, h3, h4, hm, hm']⟩
    · by_cases h2 : way = 2
      · exact ⟨p + 1, by omega, by simp -implicitDefEqProofs [h1, h2, h4, hm, hm']⟩
      · by_cases h3 : way = 1
        · exact ⟨p + 1, by omega, by simp -implicitDefEqProofs [h1, h3, h4, hm, hm']⟩
        · exact ⟨p + 1, by omega, by simp -implicitDefEqProofs [h1, h2, h3, h4, hm, hm']⟩
end Lw

namespace Lw
open Tg
--@ law_row k63
theorem emod_at (x : Int) (m : Nat) (h : 0 < m) : ∃ i : Nat, x % (m : Int) = (i : Int) ∧ i < m := by
  have a := Int.emod_nonneg x (show (m : Int) ≠ 0 by omega)
  have b := Int.emod_lt_of_pos x (show (0 : Int) < m by omega)
  exact ⟨(x % (m : Int)).toNat, by omega, by omega⟩
theorem pick_ev (call mk : Call) (p0 p1 p2 : Tg.D) (many way kind side rest : Int) (pool : List Int) (h0 : 0 < pool.length) (h1 : pool.length ≤ 8) (hole8 hole9 hole10 hole11 hole12 : Tg.D) :
    ∃ k i j : Int, compL (tgN 13) cYes (b_law_row_e0 call mk) [p0, p1, p2, .lst false (pool.map .int), .int way, .int kind, .int side, .int rest, hole8, hole9, hole10, hole11, hole12, .hole] [.int 0, .int 1, .int 2] = some [.int k, .int i, .int j] := by
  obtain ⟨ys, e, hl, _⟩ := compL_ex (fun _ : Int => True) (fun m => .int m) (tg := tgN 13) (e := b_law_row_e0 call mk) (env := [p0, p1, p2, .lst false (pool.map .int), .int way, .int kind, .int side, .int rest, hole8, hole9, hole10, hole11, hole12, .hole]) [.int 0, .int 1, .int 2] fun x hx => by
    have hx' : ∃ (i : Int) (s : Int), x = .int i ∧ 0 < s ∧ s < 100 ∧ atD [Tg.D.int 1, .int 8, .int 64] i = some (.int s) := by
      simp only [List.mem_cons, List.not_mem_nil, or_false] at hx
      rcases hx with rfl | rfl | rfl
      · exact ⟨0, 1, rfl, by decide, by decide, rfl⟩
      · exact ⟨1, 8, rfl, by decide, by decide, rfl⟩
      · exact ⟨2, 64, rfl, by decide, by decide, rfl⟩
    obtain ⟨i, s, rfl, hs, hs2, hat⟩ := hx'
    obtain ⟨j, hj, hjl⟩ := emod_at (rest / s % 8) pool.length h0
    have hat2 : atD (pool.map Tg.D.int) (rest / s % 8 % (pool.length : Int)) = some (.int pool[j]) := by
      rw [hj]
      have := atD_nat (xs := pool.map Tg.D.int) (i := j) (by simpa using hjl)
      simpa using this
    have hs3 : s < 1073741824 := by omega
    have hp : (0 : Int) < pool.length := by omega
    exact ⟨_, pool[j], rfl, by simp -implicitDefEqProofs [u_law_row_e0, hat, hs, hs3, h0, hp, hat2], trivial⟩
  match ys, hl with
  | [k, i, j], _ => exact ⟨k, i, j, e⟩
theorem row_ev (k : Nat) (c p : Int) (many : Nat) (hm : 0 < many) (way : Int) (pool : List Int) (h0 : 0 < pool.length) (h1 : pool.length ≤ 8) (hp : 0 ≤ p ∧ p < many) :
    ∃ r : Row, callAt T (k + 2) j_law_row [.int c, .int p, .int many, .lst false (pool.map .int), .int way] = some (r.d, []) ∧ r.okS ∧ r.within many := by
  rw [e_law_row, u_law_row]
  have bk : 0 ≤ c % 24 ∧ c % 24 < 24 := ⟨Int.emod_nonneg _ (by decide), Int.emod_lt_of_pos _ (by decide)⟩
  generalize ek : c % 24 = kind at bk
  have hside : ∃ side : Int, atD [Tg.D.int 2, .int 2, .int 0, .int 1] (c / 24 % 4) = some (.int side) := by
    have : c / 24 % 4 = 0 ∨ c / 24 % 4 = 1 ∨ c / 24 % 4 = 2 ∨ c / 24 % 4 = 3 := by omega
    rcases this with h | h | h | h <;> rw [h] <;> exact ⟨_, rfl⟩
  obtain ⟨side, hside⟩ := hside
  generalize er : c / 96 = rest
  obtain ⟨kk, ii, jj, hpick⟩ := pick_ev (callAt T (k + 1)) (mkAt T (k + 1)) (.int c) (.int p) (.int many) many way kind side rest pool h0 h1 .hole .hole .hole .hole .hole
  obtain ⟨q, hq, hgo⟩ := goes_ev k (rest / 512) p many hm way hp
  obtain ⟨q2, hq2, hgo2⟩ := goes_ev k (rest / 131072) p many hm way hp
  have sm : small62 (3 : Int) = true := small_nat (n := 3) (by omega)
  have hl3 : 3 < line := by decide
  have hl9 : 9 ≤ line := by decide
  have hrange : (List.range 3).map (fun (k : Nat) => Tg.D.int (k : Int)) = [.int 0, .int 1, .int 2] := rfl
  have g512 : gMul (.int 512) (.int 256) = some (.int 131072) := gMul_l (by omega) (by omega)
  have hsig : ∃ c : Nat, atD [43, 45, 42, 47, 60, 61, 38, 124, 94] (rest / 131072 % 9) = some c ∧ c < 1114112 := by
    have : rest / 131072 % 9 = 0 ∨ rest / 131072 % 9 = 1 ∨ rest / 131072 % 9 = 2 ∨ rest / 131072 % 9 = 3 ∨ rest / 131072 % 9 = 4 ∨ rest / 131072 % 9 = 5 ∨ rest / 131072 % 9 = 6 ∨ rest / 131072 % 9 = 7 ∨ rest / 131072 % 9 = 8 := by omega
    rcases this with h | h | h | h | h | h | h | h | h <;> rw [h] <;> exact ⟨_, rfl, by decide⟩
  obtain ⟨sg, hsg, hsg2⟩ := hsig
  have w1 : ∀ {x : Int}, (0 ≤ x ∧ x < many) → ∀ q ∈ [x], 0 ≤ q ∧ q < (many : Int) := fun h q hq => by
    rw [List.mem_singleton.mp hq]; exact h
  have w2 : ∀ {x y : Int}, (0 ≤ x ∧ x < many) → (0 ≤ y ∧ y < many) → ∀ q ∈ [x, y], 0 ≤ q ∧ q < (many : Int) := fun h h' q hq => by
    rcases List.mem_cons.mp hq with e | hq
    · rw [e]; exact h
    · rw [List.mem_singleton.mp hq]; exact h'
  by_cases hb : kind = 0 ∨ (way < 2 ∧ p + 1 = many)
  · refine ⟨.back ii, ?_, trivial, fun _ h => nomatch h⟩
    have hc : (if kind = 0 then true else if way < 2 then decide (p + 1 = many) else false) = true := by
      rcases hb with h | ⟨h, h'⟩
      · simp [h]
      · by_cases hk : kind = 0 <;> simp [hk, h, h']
    have ht : (eOr (eOp gEq (eVar 5) (eC (.int 0))) (eAnd (eOp gLt (eVar 4) (eC (.int 2))) (eOp gEq (eOp gAdd (eVar 1) (eC (.int 1))) (eVar 2)))) [.int c, .int p, .int many, .lst false (pool.map .int), .int way, .int kind, .int side, .int rest, .int kk, .int ii, .int jj, .int q, .int (rest / 131072), .hole] = some (.bl true) := by
      rcases hb with h | ⟨h, h'⟩
      · simp -implicitDefEqProofs [h]
      · by_cases hk : kind = 0 <;> simp -implicitDefEqProofs [hk, h, h']
    simp -implicitDefEqProofs [-eOr_ev, -eAnd_ev, ek, hside, er, sm, hl3, hrange, hpick, hgo, g512, ht, Row.d]
  · have ht : (eOr (eOp gEq (eVar 5) (eC (.int 0))) (eAnd (eOp gLt (eVar 4) (eC (.int 2))) (eOp gEq (eOp gAdd (eVar 1) (eC (.int 1))) (eVar 2)))) [.int c, .int p, .int many, .lst false (pool.map .int), .int way, .int kind, .int side, .int rest, .int kk, .int ii, .int jj, .int q, .int (rest / 131072), .hole] = some (.bl false) := by
      have hk : ¬ kind = 0 := fun h => hb (.inl h)
      by_cases h : way < 2
      · have h' : ¬ p + 1 = many := fun h' => hb (.inr ⟨h, h'⟩)
        simp -implicitDefEqProofs [hk, h, h']
      · simp -implicitDefEqProofs [hk, h]
    have kc : kind < 3 ∨ (¬ kind < 3 ∧ kind < 8) ∨ (¬ kind < 3 ∧ ¬ kind < 8 ∧ kind < 14) ∨ (¬ kind < 3 ∧ ¬ kind < 8 ∧ ¬ kind < 14 ∧ kind < 16) ∨ (¬ kind < 3 ∧ ¬ kind < 8 ∧ ¬ kind < 14 ∧ ¬ kind < 16 ∧ kind < 18) ∨ (¬ kind < 3 ∧ ¬ kind < 8 ∧ ¬ kind < 14 ∧ ¬ kind < 16 ∧ ¬ kind < 18 ∧ kind < 21) ∨ (¬ kind < 3 ∧ ¬ kind < 8 ∧ ¬ kind < 14 ∧ ¬ kind < 16 ∧ ¬ kind < 18 ∧ ¬ kind < 21) := by omega
    rcases kc with h | ⟨g1, h⟩ | ⟨g1, g2, h⟩ | ⟨g1, g2, g3, h⟩ | ⟨g1, g2, g3, g4, h⟩ | ⟨g1, g2, g3, g4, g5, h⟩ | ⟨g1, g2, g3, g4, g5, g6⟩
    · refine ⟨.num side kk (rest / 131072 % 2 ^ 48) q, ?_, trivial, w1 hq⟩
      simp -implicitDefEqProofs [-eOr_ev, -eAnd_ev, ek, hside, er, sm, hl3, hrange, hpick, hgo, g512, ht, h, Row.d]
    · refine ⟨.copy side kk ii q, ?_, trivial, w1 hq⟩
      simp -implicitDefEqProofs [-eOr_ev, -eAnd_ev, ek, hside, er, sm, hl3, hrange, hpick, hgo, g512, ht, g1, h, Row.d]
    · refine ⟨.op side [sg] kk ii jj q, ?_, ⟨sg, rfl, hsg2⟩, w1 hq⟩
      simp -implicitDefEqProofs [-eOr_ev, -eAnd_ev, ek, hside, er, sm, hl3, hrange, hpick, hgo, g512, ht, g1, g2, h, hl9, hsg, Row.d]
    · refine ⟨.out ii q, ?_, trivial, w1 hq⟩
      simp -implicitDefEqProofs [-eOr_ev, -eAnd_ev, ek, hside, er, sm, hl3, hrange, hpick, hgo, g512, ht, g1, g2, g3, h, Row.d]
    · refine ⟨.fork ii q q2, ?_, trivial, w2 hq hq2⟩
      simp -implicitDefEqProofs [-eOr_ev, -eAnd_ev, ek, hside, er, sm, hl3, hrange, hpick, hgo, hgo2, g512, ht, g1, g2, g3, g4, h, Row.d]
    · refine ⟨.look ii q, ?_, trivial, w1 hq⟩
      simp -implicitDefEqProofs [-eOr_ev, -eAnd_ev, ek, hside, er, sm, hl3, hrange, hpick, hgo, g512, ht, g1, g2, g3, g4, g5, h, Row.d]
    · refine ⟨.mark q, ?_, trivial, w1 hq⟩
      simp -implicitDefEqProofs [-eOr_ev, -eAnd_ev, ek, hside, er, sm, hl3, hrange, hpick, hgo, g512, ht, g1, g2, g3, g4, g5, g6, Row.d]
--@ _law_code k63
theorem code_ev (k : Nat) (ns : List Int) (many : Nat) (hm : 0 < many) (hm2 : many < 1000) (way : Int) : ∃ rs : List Row, callAt T (k + 4) j_law_code [.scr ns, .int many, .int way] = some (.lst true (rs.map Row.d), []) ∧ rs.length = many ∧ ∀ r ∈ rs, r.okS ∧ r.within many := by
  rw [e_law_code, u_law_code]
  obtain ⟨pool, h0, h1, hp⟩ := pool_ev (k + 1) ns
  obtain ⟨xs, hx, hn⟩ := numbers_ev k ns many hm hm2
  obtain ⟨rs, h3, h4, h5⟩ := compL_ex (fun r : Row => r.okS ∧ r.within many) Row.d (tg := tgN 5) (e := b_law_code_e0 (callAt T (k + 3)) (mkAt T (k + 3))) (env := [.scr ns, .int many, .int way, .lst false (pool.map .int), .lst false (xs.map .int), .hole]) ((List.range many).map fun (i : Nat) => .int (i : Int)) fun x hxx => by
    rw [List.mem_map] at hxx
    obtain ⟨i, hi, rfl⟩ := hxx
    rw [List.mem_range] at hi
    have hi' : i < (xs.map Tg.D.int).length := by simpa [hx] using hi
    obtain ⟨r, hr, hok⟩ := row_ev (k + 1) (xs[i]'(by omega)) i many hm way pool h0 h1 ⟨by omega, by omega⟩
    refine ⟨_, r, rfl, ?_, hok⟩
    simp -implicitDefEqProofs [u_law_code_e0, atD_nat hi', hr]
  have h4' : rs.length = many := by simpa using h4
  refine ⟨rs, ?_, h4', h5⟩
  have sm : small62 (many : Int) = true := small_nat (by omega)
  have hl : many < line := by unfold line; omega
  simp -implicitDefEqProofs [hp, hn, sm, hl, h3]
--@ _law_many k63
theorem many_ev (k : Nat) (c : Int) : ∃ n : Nat, 2 ≤ n ∧ n < 100 ∧ callAt T (k + 1) j_law_many [.int c] = some (.int n, []) := by
  rw [e_law_many, u_law_many]
  have a1 := Int.emod_nonneg (c / 264) (show (21 : Int) ≠ 0 by decide)
  have b1 := Int.emod_lt_of_pos (c / 264) (show (0 : Int) < 21 by decide)
  have a2 := Int.emod_nonneg (c / 3) (show (11 : Int) ≠ 0 by decide)
  have b2 := Int.emod_lt_of_pos (c / 3) (show (0 : Int) < 11 by decide)
  by_cases h : c / 33 % 8 = 1
  · refine ⟨(20 + c / 264 % 21).toNat, by omega, by omega, ?_⟩
    rw [Int.toNat_of_nonneg (by omega)]
    simp -implicitDefEqProofs [h]
  · refine ⟨(2 + c / 3 % 11).toNat, by omega, by omega, ?_⟩
    rw [Int.toNat_of_nonneg (by omega)]
    simp -implicitDefEqProofs [h]
end Lw

namespace Lw
open Tg
@[simp] theorem shs_app (xs ys : List Tg.D) : D.shs (xs ++ ys) = (D.shs xs && D.shs ys) := by
  induction xs with
  | nil => rfl
  | cons x xs ih => rw [List.cons_append, shs_cons, ih, shs_cons, Bool.and_assoc]
theorem gIn_s2 (x a b : List Nat) : gIn (.str x) (.tup [.str a, .str b]) = some (.bl (a == x || b == x)) := by
  cases x with
  | nil => show some (D.bl (a == [] || (b == [] || false))) = _; rw [Bool.or_false]
  | cons c x => cases x with
    | nil => show some (D.bl (a == [c] || (b == [c] || false))) = _; rw [Bool.or_false]
    | cons d x => show some (D.bl (a == c :: d :: x || (b == c :: d :: x || false))) = _; rw [Bool.or_false]
theorem cutI_m1 (n d : Nat) : cutI n d (some (-1)) = n - 1 := by
  show (max ((-1 : Int) + n) 0).toNat = n - 1
  omega
theorem cutI_m2 (n d : Nat) : cutI n d (some (-2)) = n - 2 := by
  show (max ((-2 : Int) + n) 0).toNat = n - 2
  omega
theorem cutI_no (n d : Nat) : cutI n d none = d := rfl
theorem cutI_0 (n d : Nat) : cutI n d (some 0) = min 0 n := rfl
theorem cutI_1 (n d : Nat) : cutI n d (some 1) = min 1 n := rfl
theorem cutI_2 (n d : Nat) : cutI n d (some 2) = min 2 n := rfl
theorem cutI_3 (n d : Nat) : cutI n d (some 3) = min 3 n := rfl
theorem cutI_4 (n d : Nat) : cutI n d (some 4) = min 4 n := rfl
theorem cutI_5 (n d : Nat) : cutI n d (some 5) = min 5 n := rfl
theorem cutI_6 (n d : Nat) : cutI n d (some 6) = min 6 n := rfl
theorem cutI_7 (n d : Nat) : cutI n d (some 7) = min 7 n := rfl
theorem d_fork (i q p : Int) : (Row.fork i q p).d = .tup [.str [102, 111, 114, 107], .int i, .int q, .int p] := (rfl)
theorem cutD_map {α β : Type} (f : α → β) (xs : List α) (lo hi : Option Int) : cutD (xs.map f) lo hi = (cutD xs lo hi).map f := by
  unfold cutD
  rw [List.length_map, List.map_take, List.map_drop]
theorem cutD_mem {α : Type} {xs : List α} {lo hi : Option Int} {x : α} (h : x ∈ cutD xs lo hi) : x ∈ xs := List.mem_of_mem_drop (List.mem_of_mem_take h)
theorem cutD_lo {α : Type} (xs : List α) (p : Nat) (h : p ≤ xs.length) : cutD xs none (some (p : Int)) = xs.take p := by
  unfold cutD cutI
  have : ¬ (p : Int) < 0 := by omega
  simp [this]
theorem cutD_hi {α : Type} (xs : List α) (p : Nat) (h : p ≤ xs.length) : cutD xs (some (p : Int)) none = xs.drop p := by
  unfold cutD cutI
  have : ¬ (p : Int) < 0 := by omega
  simp [this]
  have e : min p xs.length = p := by omega
  rw [e]
  apply List.take_of_length_le
  simp
--@ _law_with_one
theorem with_one_ev (k : Nat) (rs : List Row) (c : Int) (h2 : 2 ≤ rs.length) (hl : rs.length < 1000) (hok : ∀ r ∈ rs, r.okS) : ∃ rs' : List Row, callAt T (k + 2) j_law_with_one [.lst false (rs.map Row.d), .int c] = some (.lst true (rs'.map Row.d), []) ∧ rs'.length = rs.length ∧ ∀ r ∈ rs', r.okS := by
  rw [e_law_with_one, u_law_with_one]
  obtain ⟨m9, e9⟩ := mixed_ev k c 9
  obtain ⟨m10, e10⟩ := mixed_ev k c 10
  obtain ⟨m11, e11⟩ := mixed_ev k c 11
  obtain ⟨m12, e12⟩ := mixed_ev k c 12
  obtain ⟨m13, e13⟩ := mixed_ev k c 13
  obtain ⟨m14, e14⟩ := mixed_ev k c 14
  have hp : ∃ p : Nat, (m9 : Int) % ((rs.length : Int) - 1) = (p : Int) ∧ p < rs.length - 1 := by
    have a := Int.emod_nonneg (m9 : Int) (show ((rs.length : Int) - 1) ≠ 0 by omega)
    have b := Int.emod_lt_of_pos (m9 : Int) (show (0 : Int) < (rs.length : Int) - 1 by omega)
    exact ⟨((m9 : Int) % ((rs.length : Int) - 1)).toNat, by omega, by omega⟩
  obtain ⟨p, hp1, hp2⟩ := hp
  obtain ⟨q, hq1, hq2⟩ := emod_at (m12 : Int) rs.length (by omega)
  have hpos : (1 : Int) < rs.length := by omega
  have hpos' : (0 : Int) < rs.length := by omega
  have hposN : 0 < rs.length := by omega
  have hrow : ∃ r : Row, atD [(Row.mark ((p : Int) + 1)).d, (Row.look ((m10 : Int) % 8) ((p : Int) + 1)).d] ((m11 : Int) % 2) = some r.d ∧ r.okS := by
    have : (m11 : Int) % 2 = 0 ∨ (m11 : Int) % 2 = 1 := by omega
    rcases this with h | h <;> rw [h]
    · exact ⟨.mark _, rfl, trivial⟩
    · exact ⟨.look _ _, rfl, trivial⟩
  obtain ⟨r, hr, hrk⟩ := hrow
  have hr : atD [.tup [.str [109, 97, 114, 107], .int ((p : Int) + 1)], .tup [.str [108, 111, 111, 107], .int ((m10 : Int) % 8), .int ((p : Int) + 1)]] ((m11 : Int) % 2) = some r.d := hr
  have c1 : cutD (rs.map Row.d) none (some (p : Int)) = (rs.take p).map Row.d := by rw [cutD_map, cutD_lo _ _ (by omega)]
  have c2 : cutD (rs.map Row.d) (some ((p : Int) + 1)) none = (rs.drop (p + 1)).map Row.d := by
    have := cutD_hi rs (p + 1) (by omega)
    rw [cutD_map, ← this]
    rfl
  have hset : (rs.take p).map Row.d ++ ([r.d] ++ (rs.drop (p + 1)).map Row.d) = (rs.take p ++ r :: rs.drop (p + 1)).map Row.d := by simp
  have hln : (rs.take p ++ r :: rs.drop (p + 1)).length = rs.length := by simp; omega
  have hokA : ∀ x ∈ rs.take p ++ r :: rs.drop (p + 1), x.okS := fun x hx => by
    rcases List.mem_append.mp hx with h | h
    · exact hok x (List.mem_of_mem_take h)
    · rcases List.mem_cons.mp h with h | h
      · rw [h]; exact hrk
      · exact hok x (List.mem_of_mem_drop h)
  have l1 : (rs.take p).length + 1 ≤ line := by unfold line; simp; omega
  have l2 : (rs.take p).length + 1 + (rs.drop (p + 1)).length ≤ line := by unfold line; simp; omega
  have l1' : min p rs.length + 1 ≤ line := by simpa using l1
  have l2' : min p rs.length + 1 + (rs.length - (p + 1)) ≤ line := by simpa using l2
  by_cases hqp : q = p
  · refine ⟨rs.take p ++ r :: rs.drop (p + 1), ?_, hln, hokA⟩
    have hqp' : (q : Int) = (p : Int) := by omega
    simp -implicitDefEqProofs [-List.map_take, -List.map_drop, e9, e10, e11, e12, hp1, hq1, hpos, hpos', hposN, hr, hqp', c1, c2, l1', l2']
  · refine ⟨(rs.take p ++ r :: rs.drop (p + 1)).set q (.fork ((m13 : Int) % 8) p ((m14 : Int) % rs.length)), ?_, by rw [List.length_set, hln], fun x hx => ?_⟩
    · have hqp' : ¬ (q : Int) = (p : Int) := by omega
      have hix : ixD ((rs.take p).length + ((rs.drop (p + 1)).length + 1)) (q : Int) = some q := ixD_nat (by simp; omega)
      have hix' : ixD (min p rs.length + (rs.length - (p + 1) + 1)) (q : Int) = some q := by simpa using hix
      simp -implicitDefEqProofs [-List.map_take, -List.map_drop, e9, e10, e11, e12, e13, e14, hp1, hq1, hpos, hpos', hposN, hr, hqp', c1, c2, l1', l2', hix', d_fork]
    · rcases List.mem_or_eq_of_mem_set hx with h | h
      · exact hokA x h
      · rw [h]; exact trivial
--@ closer
theorem closer_ev (k : Nat) (q p : Int) : callAt T (k + 1) j_closer [.int q, .int p] = some (.int (q - if p < q then 1 else 0), []) := by
  rw [e_closer, u_closer]
  simp -implicitDefEqProofs
--@ can_go
def goes (r : Row) (p : Int) : Bool := match r with
  | .look _ q => decide (q = p + 1)
  | .mark q => decide (q = p + 1)
  | _ => false
theorem can_go_ev (k : Nat) (rs : List Row) (p : Nat) (h : p < rs.length) : callAt T (k + 1) j_can_go [.lst false (rs.map Row.d), .int p] = some (.bl (goes rs[p] p), []) := by
  have hat : atD (rs.map Row.d) (p : Int) = some rs[p].d := by
    have := atD_nat (xs := rs.map Row.d) (i := p) (by simpa using h)
    simpa using this
  generalize rs[p] = r at hat
  have h' : (p : Int) < rs.length := by omega
  rw [e_can_go, u_can_go]
  cases r <;> simp only [Row.d] at hat <;> simp -implicitDefEqProofs [h, h', hat, goes] <;> simp -implicitDefEqProofs [atD, ixD, gIn_s2]
--@ led_past
def clo (p q : Int) : Int := q - if p < q then 1 else 0
def past (p : Int) : Row → Row
  | .num d k n q => .num d k n (clo p q)
  | .copy d k i q => .copy d k i (clo p q)
  | .op d s k i j q => .op d s k i j (clo p q)
  | .out i q => .out i (clo p q)
  | .fork i q r => .fork i (clo p q) (clo p r)
  | .look i q => .look i (clo p q)
  | .mark q => .mark (clo p q)
  | .back i => .back i
theorem past_ok (p : Int) (r : Row) (h : r.okS) : (past p r).okS := by cases r <;> first | trivial | exact h
theorem led_past_ev (k : Nat) (r : Row) (p : Int) : callAt T (k + 2) j_led_past [r.d, .int p] = some ((past p r).d, []) := by
  rw [e_led_past, u_led_past]
  have hc := fun q => closer_ev k q p
  cases r <;> simp -implicitDefEqProofs [Row.d, past, clo, atD, ixD, hc, cutD, cutI_m1, cutI_no, line]
--@ _law_moved
theorem moved_ev (k : Nat) (r : Row) (p : Int) : callAt T (k + 1) j_law_moved [r.d, .int p] = some ((past p r).d, []) := by
  rw [e_law_moved, u_law_moved]
  have hc := compL_all (fun i : Int => Tg.D.int i) (fun q => Tg.D.int (clo p q)) (tg := tgN 3) (e := b_law_moved_e0 (callAt T k) (mkAt T k)) (env := [r.d, .int p, .hole, .hole]) r.ways fun q _ => ⟨_, rfl, by simp -implicitDefEqProofs [u_law_moved_e0, clo]⟩
  cases r <;> simp only [Row.d, Row.ways, List.map_cons, List.map_nil] at hc <;> simp -implicitDefEqProofs [Row.d, past, atD, ixD, cutD, cutI_m1, cutI_m2, cutI_no, cutI_0, cutI_1, cutI_2, cutI_3, cutI_4, cutI_5, cutI_6, line, hc]
end Lw

namespace Lw
open Tg
def less (rs : List Row) (p : Nat) : List Row := (rs.take p ++ rs.drop (p + 1)).map (past p)
theorem less_len (rs : List Row) (p : Nat) : (less rs p).length ≤ rs.length := by
  unfold less
  simp
  omega
theorem less_ok (rs : List Row) (p : Nat) (h : ∀ r ∈ rs, r.okS) : ∀ r ∈ less rs p, r.okS := fun r hr => by
  unfold less at hr
  rw [List.mem_map] at hr
  obtain ⟨x, hx, rfl⟩ := hr
  refine past_ok p x (h x ?_)
  rcases List.mem_append.mp hx with h | h
  · exact List.mem_of_mem_take h
  · exact List.mem_of_mem_drop h
theorem rest_it (rs : List Row) (p : Nat) (h : p < rs.length) (hl : rs.length < 1000) :
    gAdd (.lst true (cutD (rs.map Row.d) none (some (p : Int)))) (.lst true (cutD (rs.map Row.d) (some ((p : Int) + 1)) none)) = some (.lst true ((rs.take p ++ rs.drop (p + 1)).map Row.d)) := by
  have c1 : cutD (rs.map Row.d) none (some (p : Int)) = (rs.take p).map Row.d := by rw [cutD_map, cutD_lo _ _ (by omega)]
  have c2 : cutD (rs.map Row.d) (some ((p : Int) + 1)) none = (rs.drop (p + 1)).map Row.d := by
    have := cutD_hi rs (p + 1) (by omega)
    rw [cutD_map, ← this]
    rfl
  have l : (rs.take p).length + (rs.drop (p + 1)).length ≤ line := by unfold line; simp; omega
  rw [c1, c2, gAdd_ll, rows_shs, rows_shs, List.length_map, List.length_map, List.map_append]
  rw [if_pos]
  rw [Bool.true_and, Bool.true_and, decide_eq_true_eq]
  exact l
--@ without
theorem without_ev (k : Nat) (rs : List Row) (p : Nat) (h : p < rs.length) (hl : rs.length < 1000) : callAt T (k + 3) j_without [.lst false (rs.map Row.d), .int p] = some (.lst true ((less rs p).map Row.d), []) := by
  rw [e_without, u_without]
  have hc := compL_all Row.d (fun r => (past p r).d) (tg := tgN 2) (e := b_without_e0 (callAt T (k + 2)) (mkAt T (k + 2))) (env := [.lst false (rs.map Row.d), .int p, .hole]) (rs.take p ++ rs.drop (p + 1)) fun r _ => ⟨_, rfl, by
    have := led_past_ev k r p
    simp -implicitDefEqProofs [u_without_e0, this]⟩
  have it := rest_it rs p h hl
  have hlen : (rs.take p ++ rs.drop (p + 1)).length < line := by unfold line; simp; omega
  have hm : ((rs.take p ++ rs.drop (p + 1)).map fun r => (past p r).d) = (less rs p).map Row.d := by
    unfold less
    rw [List.map_map]
    rfl
  rw [hm] at hc
  generalize rs.take p ++ rs.drop (p + 1) = xs at *
  simp -implicitDefEqProofs [-gAdd_ll, it, hlen, hc]
theorem past_nfs (rs : List Row) : D.nfs (rs.map Row.d) = true := rows_nfs rs
--@ law k63
theorem law_step (k : Nat) (rs : List Row) (p : Nat) (h : p < rs.length) (hl : rs.length < 1000) (hok : ∀ r ∈ rs, r.okS) (sc hd : Tg.D) :
    b_law_l2 (callAt T (k + 3)) (mkAt T (k + 3)) [sc, hd, .lst false (rs.map Row.d), .lst false (rs.map Row.d), .int p, .hole, .hole, .hole, .hole, .hole, .hole] = some (.nx [sc, hd, .lst false (rs.map Row.d), .lst false (rs.map Row.d), .hole, .hole, .hole, .hole, .hole, .hole, .hole]) := by
  have hgo := can_go_ev (k + 2) rs p h
  have hat : atD (rs.map Row.d) (p : Int) = some rs[p].d := by
    have := atD_nat (xs := rs.map Row.d) (i := p) (by simpa using h)
    simpa using this
  generalize hr : rs[p] = r at hgo hat
  have hdue : (eAnd (eOr (eOp gEq (eOp gIx (eVar 5) (eC (.int 0))) (eC (.str [108, 111, 111, 107]))) (eOp gEq (eOp gIx (eVar 5) (eC (.int 0))) (eC (.str [109, 97, 114, 107])))) (eOp gEq (eOp gIx (eVar 5) (eUn gNeg (eC (.int 1)))) (eOp gAdd (eVar 4) (eC (.int 1))))) [sc, hd, .lst false (rs.map Row.d), .lst false (rs.map Row.d), .int p, r.d, .hole, .hole, .hole, .hole, .hole] = some (.bl (goes r p)) := by
    cases r <;> simp -implicitDefEqProofs [Row.d, goes] <;> simp -implicitDefEqProofs [atD, ixD]
  have hne : ∀ b : Bool, gNe (.bl b) (.bl b) = some (.bl false) := fun b => by cases b <;> rfl
  rw [u_law_l2]
  by_cases hg : goes r p = true
  · have hw := without_ev k rs p h hl
    have it := rest_it rs p h hl
    have hlen : (rs.take p ++ rs.drop (p + 1)).length < line := by unfold line; simp; omega
    have hlen2 : (less rs p).length < line := by have := less_len rs p; unfold line; omega
    rw [hg] at hgo hdue
    have hc := compL_all Row.d (fun r => (past p r).d) (tg := tgN 10) (e := b_law_e1 (callAt T (k + 3)) (mkAt T (k + 3))) (env := [sc, hd, .lst false (rs.map Row.d), .lst false (rs.map Row.d), .int p, r.d, .bl true, .bl true, .lst true ((less rs p).map Row.d), .hole, .hole]) (rs.take p ++ rs.drop (p + 1)) fun x _ => ⟨_, rfl, by
      have := moved_ev (k + 2) x p
      simp -implicitDefEqProofs [u_law_e1, this]⟩
    have hm : ((rs.take p ++ rs.drop (p + 1)).map fun r => (past p r).d) = (less rs p).map Row.d := by
      unfold less
      rw [List.map_map]
      rfl
    rw [hm] at hc
    have hq : gNe (.lst true ((less rs p).map Row.d)) (.lst false ((less rs p).map Row.d)) = some (.bl false) := by
      rw [gNe_of (rows_eqok _ (less_ok rs p hok) true) (rows_eqok _ (less_ok rs p hok) false)]
      show some (Tg.D.bl (!D.eqvs _ _)) = _
      rw [eqvs_rows _ (less_ok rs p hok)]
      rfl
    have hi := compL_all Row.d (fun _ => Tg.D.bl true) (tg := tgN 10) (e := b_law_e0 (callAt T (k + 3)) (mkAt T (k + 3))) (env := [sc.fz, hd.fz, .lst false (rs.map Row.d), .lst false (rs.map Row.d), .int p, r.d, .bl true, .bl true, .lst false ((less rs p).map Row.d), .lst false ((less rs p).map Row.d), .hole]) (less rs p) fun x _ => ⟨_, rfl, by
      cases x <;> simp -implicitDefEqProofs [u_law_e0, Row.d]⟩
    have hall : gAll (.lst true ((less rs p).map fun _ => Tg.D.bl true)) = some (.bl true) := by
      have : ((less rs p).map fun _ => Tg.D.bl true) = ((less rs p).map fun _ => true).map .bl := by simp
      rw [this, gAll_bls]
      simp
    have hnfb : D.nfs ((less rs p).map fun _ => Tg.D.bl true) = true := nfs_map _ (fun _ => rfl) _
    generalize rs.take p ++ rs.drop (p + 1) = xs at *
    generalize less rs p = ys at *
    simp -implicitDefEqProofs [-gAdd_ll, -eAnd_ev, -eOr_ev, hat, hdue, hgo, hne, it, hlen, hc, hw, hq, hlen2, hi, hall, hnfb]
    simp -implicitDefEqProofs [-gAdd_ll, hne, it, hlen, hc, hw, hq, hlen2, hi, hall, hnfb]
  · rw [Bool.not_eq_true] at hg
    rw [hg] at hgo hdue
    simp -implicitDefEqProofs [-eAnd_ev, -eOr_ev, hat, hdue, hgo]
    simp -implicitDefEqProofs [hne]
theorem law_loop (k : Nat) (rs : List Row) (hl : rs.length < 1000) (hok : ∀ r ∈ rs, r.okS) (sc hd : Tg.D) : ∀ is : List Nat, (∀ i ∈ is, i < rs.length) →
    sFor (tgN 4) (b_law_l2 (callAt T (k + 3)) (mkAt T (k + 3))) (is.map fun (i : Nat) => .int (i : Int)) [sc, hd, .lst false (rs.map Row.d), .lst false (rs.map Row.d), .hole, .hole, .hole, .hole, .hole, .hole, .hole] = some (.nx [sc, hd, .lst false (rs.map Row.d), .lst false (rs.map Row.d), .hole, .hole, .hole, .hole, .hole, .hole, .hole])
  | [], _ => by simp
  | i :: is, h => by
    rw [List.map_cons, sFor_cons]
    have st := law_step k rs i (h i (by simp)) hl hok sc hd
    have ih := law_loop k rs hl hok sc hd is fun x hx => h x (by simp [hx])
    rw [tgN_ev, if_pos (by show 4 < 11; decide)]
    simp only [Option.bind_some, List.set_cons_succ, List.set_cons_zero]
    rw [st]
    exact ih
theorem main : Main := fun ns hns => by
  show callAt T (59 + 1) j_law [.scr ns] = _
  rw [e_law, u_law]
  have c0 : callAt T 59 j_law_cell_at [.scr ns, .int 0] = some (.int (ns.getD 0 0), []) := cell_at_ev 58 ns 0
  have c2 : callAt T 59 j_law_cell_at [.scr ns, .int 2] = some (.int (ns.getD 2 0), []) := cell_at_ev 58 ns 2
  obtain ⟨n, n2, n3, hn⟩ := many_ev 58 (ns.getD 0 0 / 2)
  obtain ⟨rs, h1, h2, h3⟩ := code_ev 55 ns n (by omega) (by omega) (ns.getD 0 0 / 2 % 3)
  obtain ⟨m, hm⟩ := mixed_ev 58 (ns.getD 2 0) 8
  obtain ⟨rs', h4, h5, h6⟩ := with_one_ev 57 rs (ns.getD 2 0) (by omega) (by omega) fun r hr => (h3 r hr).1
  have hn : callAt T 59 _ _ = _ := hn
  have hm : callAt T 59 _ _ = _ := hm
  have h1 : callAt T 59 j_law_code [.scr ns, .int n, .int (ns.getD 0 0 / 2 % 3)] = _ := h1
  have h4 : callAt T 59 j_law_with_one [.lst false (rs.map Row.d), .int (ns.getD 2 0)] = _ := h4
  have fin : ∀ xs : List Row, xs.length < 1000 → (∀ r ∈ xs, r.okS) → sFor (tgN 4) (b_law_l2 (callAt T 59) (mkAt T 59)) ((List.range xs.length).map fun (i : Nat) => .int (i : Int)) [.scr ns, .int (ns.getD 0 0 / 2), .lst false (xs.map Row.d), .lst false (xs.map Row.d), .hole, .hole, .hole, .hole, .hole, .hole, .hole] = some (.nx [.scr ns, .int (ns.getD 0 0 / 2), .lst false (xs.map Row.d), .lst false (xs.map Row.d), .hole, .hole, .hole, .hole, .hole, .hole, .hole]) ∧ small62 (xs.length : Int) = true ∧ gEq (.lst false (xs.map Row.d)) (.lst false (xs.map Row.d)) = some (.bl true) := fun xs hx hk =>
    ⟨law_loop 56 xs hx hk _ _ _ fun i hi => List.mem_range.mp hi, small_nat (by omega), gEq_rows _ _ xs hk⟩
  obtain ⟨f1, f2, f3⟩ := fin rs (by omega) fun r hr => (h3 r hr).1
  obtain ⟨f4, f5, f6⟩ := fin rs' (by omega) h6
  generalize ns.getD 0 0 = x0 at *
  generalize ns.getD 2 0 = x2 at *
  by_cases hb : (m : Int) % 2 = 1
  · simp -implicitDefEqProofs [c0, c2, hn, h1, hm, hb, h4, f4, f5, f6]
  · simp -implicitDefEqProofs [c0, c2, hn, h1, hm, hb, f1, f2, f3]
end Lw

theorem PySem.Challenge.cw_turnguard_k63_left_out_holds : PySem.Challenge.rw_turnguard_k63_left_out.Holds := by
  exact Lw.holds Lw.main
