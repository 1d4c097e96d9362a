import PyProof.Rows.All
import HandS.ForMost
import HandS.Style
import HandS.IsInst
import HandS.Wide
import HandS.Deep
import HandS.Walk
import HandS.Evl
import HandS.HeadHook1
import HandS.TupAny
import HandS.Replace
import HandS.Text
import KE.KRevSl
import HandS.Defaults
import HandS.Head0
import HandS.Head1
import HandS.Head2
import HandS.HeadEnd
import HandS.HeadHook2
import PySem.Challenge.RW_playproof_k48_whole_files_fed_in_pieces
import HandS.Codes
set_option Elab.async false
set_option linter.all false
set_option maxRecDepth 100000
set_option maxHeartbeats 8000000
/-! Zc: a small language of expressions and statements over plain data, matched against the text, with its own evaluator. -/
noncomputable section
namespace Z
open PySem PySem.Spec PyProof.Rows L2
abbrev D := PyData
/-- the script: a list that is only read -/
def scrD (ns : List Int) : D := .dict [(.none, .list (ns.map .int))]
/-- an object that one slot alone holds -/
inductive O where
  | lst (xs : List D)
  /-- a list of pairs of an int and a list of its own; these lists stand in the hidden slots from b on -/
  | stk (b : Nat) (ns : List Int)
  /-- an instance of a class of the program: its fields are plain data -/
  | ins (c : Str) (fs : List (Str × D))
/-- what may be any value at all -/
abbrev junk : D := .dict []
def O.d : O → D
  | .lst xs => .list xs
  | _ => junk
/-- what may be lent -/
def O.IsL (o : O) : Prop := (∃ xs, o = .lst xs) ∨ ∃ c fs, o = .ins c fs
inductive Res where
  | imm (d : D) | own (o : O)
def Res.d : Res → D
  | .imm d => d
  | .own o => o.d
/-- a slot: empty, a datum that never changes, an own object, the caller's object, an object without a name of its own -/
inductive Slot where
  | no | imm (d : D) | own (o : O) | io (o : O) | hid (o : O)
abbrev Env := List Slot
inductive Op2 where
  | add | sub | mul | fdiv | mod | pow | shl | shr | band | bxor | bor
inductive Cm where
  | eq | ne | lt | le | gt | ge | in_ | nin | is | isn
inductive Bi where
  | len | list | tuple | int | min | max | all | any | sum | str
inductive Ty where
  | int | str | bool | list | tuple | dict
inductive Me where
  | index | join
def Me.nm : Me → Str
  | .index => "index"
  | .join => "join"
mutual
inductive E where
  | v (i : Nat)
  | int (i : Int) | str (s : Str) | bl (b : Bool) | non
  | gl (x : Str) (d : V)
  | op (o : Op2) (a b : E)
  | neg (a : E)
  | cmp (o : Cm) (a b : E)
  | not (a : E)
  | bop (isAnd : Bool) (es : Es)
  | ite (c a b : E)
  | lst (es : Es) | tup (es : Es)
  | call (f : Nat) (es : Es) | callIO (f i : Nat) (es : Es)
  | bi (b : Bi) (es : Es)
  | isi (a : E) (t : Ty)
  | lenv (i : Nat) | ixv (i : Nat) (e : E) | slv (i : Nat) (lo hi : Es)
  | ix (a i : E) | sl (a : E) (lo hi : Es)
  | comp (elt : E) (j : Nat) (src : I) (ifs : Es)
  | popv (i : Nat)
  | me (m : Me) (o a : E)
  | rev (a : E)
  | topN (i : Nat) | topLen (i : Nat) | popT (i : Nat)
  | fld (i : Nat) (c f : Str)
  | new (f : Nat) (c : Str)
  | meth (f i : Nat) (c m : Str) (es : Es)
inductive Es where
  | nil | cons (e : E) (es : Es)
inductive I where
  | it (e : E) | rng1 (a : E) | rng2 (a b : E) | rng3 (a b c : E) | enu (e : E)
end
mutual
inductive S where
  | asg (i : Nat) (e : E)
  | asgT (is : List Nat) (e : E)
  | setix (i : Nat) (ix e : E)
  | app (i : Nat) (e : E)
  | ext (i : Nat) (e : E)
  | expr (e : E)
  | ret (e : E) | retN
  | ife (c : E) (a b : Ss)
  | for_ (i : Nat) (src : I) (b : Ss)
  | forT (is : List Nat) (src : I) (b : Ss)
  | while_ (c : E) (b : Ss)
  | brk | cont | pass
  | bad
  | mk (i b : Nat)
  | push (i b : Nat) (e : E)
  | topApp (i j : Nat)
  | setf (i : Nat) (c f : Str) (e : E)
inductive Ss where
  | nil | cons (s : S) (ss : Ss)
end
/-- how a block ends -/
inductive Fl where
  | next | brk | cont | ret (r : Res)
/-! ### the operations on data -/
/-- where it holds; never computed -/
noncomputable def IF {α : Type} (c : Prop) (a : Option α) : Option α := @ite (Option α) c (Classical.propDecidable c) a none
theorem IFP {α : Type} {c : Prop} {a : Option α} (h : c) : IF c a = a := @if_pos c (Classical.propDecidable c) h (Option α) a none
def mulOk (i j : Int) : Bool := decide (i.natAbs < 2 ^ 64) || decide (j.natAbs < 2 ^ 64) || decide (i.natAbs.log2 + j.natAbs.log2 < 1000000)
def addD : D → D → Option Res
  | .int i, .int j => some (.imm (.int (i + j)))
  | .str a, .str b => IF (a.length + b.length ≤ sizeLine) (some (.imm (.str (a ++ b))))
  | .list a, .list b => IF (a.length + b.length ≤ sizeLine) (some (.own (.lst (a ++ b))))
  | .tuple a, .tuple b => IF (a.length + b.length ≤ sizeLine) (some (.imm (.tuple (a ++ b))))
  | _, _ => none
def mulD : D → D → Option Res
  | .int i, .int j => IF (mulOk i j) (some (.imm (.int (i * j))))
  | .list a, .int k => IF (k < 9223372036854775808 ∧ -9223372036854775808 ≤ k ∧ a.length * k.toNat ≤ sizeLine) (some (.own (.lst (List.replicate k.toNat a).flatten)))
  | _, _ => none
def intD (C : Int → Int → Prop) (f : Int → Int → Int) : D → D → Option Res
  | .int i, .int j => IF (C i j) (some (.imm (.int (f i j))))
  | _, _ => none
def CPow' (i j : Int) : Prop := 0 ≤ j ∧ j ≤ 1000000 ∧ i.natAbs < 2 ^ 64
instance : ∀ i j, Decidable (CPow' i j) := fun i j => by unfold CPow'; infer_instance
def CDiv' (_ j : Int) : Prop := j ≠ 0 ∧ j.natAbs < 1073741824
instance : ∀ i j, Decidable (CDiv' i j) := fun i j => by unfold CDiv'; infer_instance
def opD : Op2 → D → D → Option Res
  | .add => addD
  | .sub => intD (fun _ _ => True) fun i j => i - j
  | .mul => mulD
  | .fdiv => intD CDiv' fun i j => i.fdiv j
  | .mod => intD (fun _ j => j ≠ 0) fun i j => i.fmod j
  | .pow => intD CPow' fun i j => i ^ j.toNat
  | .shl => intD CPow' fun i j => i * 2 ^ j.toNat
  | .shr => intD (fun _ j => 0 ≤ j) fun i j => i / 2 ^ j.toNat
  | .band => intD (fun _ _ => True) Builtin.bitAnd
  | .bxor => intD (fun _ _ => True) Builtin.bitXor
  | .bor => intD (fun _ _ => True) Builtin.bitOr
def flatD : D → Bool
  | .none | .bool _ | .int _ | .str _ => true
  | _ => false
def inD (x : D) (ys : List D) : Bool := ys.any fun y => PyData.eqv y x
def ordD (f : Int → Int → Bool) : D → D → Option Bool
  | .int i, .int j => some (f i j)
  | _, _ => none
def cmpD : Cm → D → D → Option Bool
  | .eq, x, y => IF (SeqAt.shaped x && SeqAt.shaped y) (some (PyData.eqv x y))
  | .ne, x, y => IF (SeqAt.shaped x && SeqAt.shaped y) (some (!PyData.eqv x y))
  | .lt, x, y => ordD (fun i j => decide (i < j)) x y
  | .le, x, y => ordD (fun i j => decide (i ≤ j)) x y
  | .gt, x, y => ordD (fun i j => decide (j < i)) x y
  | .ge, x, y => ordD (fun i j => decide (j ≤ i)) x y
  | .in_, x, .list ys | .in_, x, .tuple ys => IF (flatD x && ys.all flatD) (some (inD x ys))
  | .nin, x, .list ys | .nin, x, .tuple ys => IF (flatD x && ys.all flatD) (some (!inD x ys))
  | .in_, .str a, .str b => some (!(Builtin.Str.occurrences b a 0 b.length 1).isEmpty)
  | .is, .bool a, .bool b => some (decide (a = b))
  | .is, .int _, .bool _ => some false
  | .is, .dict _, _ => none
  | .isn, .dict _, _ => none
  | .is, .none, .none => some true
  | .is, .none, .bool _ => none
  | .is, _, .none => some false
  | .isn, .bool a, .bool b => some (!decide (a = b))
  | .isn, .none, .none => some false
  | .isn, .none, .bool _ => none
  | .isn, _, .none => some true
  | _, _, _ => none
def truD : D → Option Bool
  | .none => some false
  | .bool b => some b
  | .int i => some (i != 0)
  | .str s => IF (s.length ≤ sizeLine) (some (s.length != 0))
  | .list xs => some (!xs.isEmpty)
  | .tuple xs => some (!xs.isEmpty)
  | _ => none
def boolsD : List D → Option (List Bool)
  | [] => some []
  | .bool b :: r => (boolsD r).map (b :: ·)
  | _ :: _ => none
def intsD : List D → Option (List Int)
  | [] => some []
  | .int b :: r => (intsD r).map (b :: ·)
  | _ :: _ => none
def strsD : List D → Option (List Str)
  | [] => some []
  | .str b :: r => (strsD r).map (b :: ·)
  | _ :: _ => none
def lenD : List D → Option Res
  | [.list xs] => some (.imm (.int xs.length))
  | [.tuple xs] => some (.imm (.int xs.length))
  | [.dict [(.none, .list xs)]] => some (.imm (.int xs.length))
  | [.str s] => IF (s.length ≤ sizeLine) (some (.imm (.int s.length)))
  | _ => none
def listD : List D → Option Res
  | [.list xs] => some (.own (.lst xs))
  | [.tuple xs] => some (.own (.lst xs))
  | _ => none
def tupleD : List D → Option Res
  | [.list xs] => some (.imm (.tuple xs))
  | [.tuple xs] => some (.imm (.tuple xs))
  | _ => none
def int1D : List D → Option Res
  | [.int i] => some (.imm (.int i))
  | [.bool k] => some (.imm (.int (if k then 1 else 0)))
  | _ => none
def int2D (f : Int → Int → Int) : List D → Option Res
  | [.int i, .int j] => some (.imm (.int (f i j)))
  | _ => none
def allD (f : List Bool → Bool) : List D → Option Res
  | [.list xs] => match boolsD xs with
    | some bs => some (.imm (.bool (f bs)))
    | none => none
  | _ => none
def sumD : List D → Option Res
  | [.list xs] => match intsD xs with
    | some bs => some (.imm (.int bs.sum))
    | none => none
  | _ => none
def strD : List D → Option Res
  | [.int i] => IF (i.natAbs.log2 < 1920) (some (.imm (.str (toString i))))
  | _ => none
def biD : Bi → List D → Option Res
  | .len => lenD
  | .list => listD
  | .tuple => tupleD
  | .int => int1D
  | .min => int2D fun i j => if j < i then j else i
  | .max => int2D fun i j => if j > i then j else i
  | .all => allD fun bs => bs.all id
  | .any => allD fun bs => bs.any id
  | .sum => sumD
  | .str => strD
def isiD : D → Ty → Option Bool
  | .dict _, _ => none
  | .int _, .int => some true
  | .bool _, .int => some true
  | .bool _, .bool => some true
  | .str _, .str => some true
  | .list _, .list => some true
  | .tuple _, .tuple => some true
  | _, _ => some false
def ixD : D → D → Option D
  | .list xs, .int i => atI xs i
  | .tuple xs, .int i => atI xs i
  | .dict [(.none, .list xs)], .int i => atI xs i
  | .str s, .int i => IF (s.length ≤ sizeLine) ((atI s.cps.toList i).map fun c => .str ⟨#[c]⟩)
  | _, _ => none
def cutD (xs : List D) (lo hi : Option Int) : List D := (xs.drop (HT.sIx xs.length 0 lo)).take (HT.sIx xs.length xs.length hi - HT.sIx xs.length 0 lo)
def slD : D → Option Int → Option Int → Option Res
  | .list xs, lo, hi => some (.own (.lst (cutD xs lo hi)))
  | _, _, _ => none
def meD : Me → D → D → Option Res
  | .index, .str a, .str b => match Builtin.Str.occurrences a b 0 a.length 1 with
    | i :: _ => some (.imm (.int (i : Nat)))
    | [] => none
  | .join, .str a, .list xs => match strsD xs with
    | some ys => IF ((ys.map (·.length)).sum + ys.length * a.length ≤ 16777216) (some (.imm (.str (Txt.join a ys))))
    | none => none
  | _, _, _ => none
def revD : D → Option Res
  | .list xs => some (.own (.lst xs.reverse))
  | .tuple xs => some (.imm (.tuple xs.reverse))
  | _ => none
/-- what a for walks over -/
def itD : D → Option (List D)
  | .list xs => some xs
  | .tuple xs => some xs
  | .str s => some (s.cps.toList.map fun c => .str ⟨#[c]⟩)
  | _ => none
def rngD (lo c : Int) (n : Nat) : List D := (List.range n).map fun (i : Nat) => PyData.int (lo + (i : Int) * c)
def rangeD : List D → Option (List D)
  | [.int j] => IF (-4611686018427387904 ≤ j ∧ j < 4611686018427387904) (some ((List.range j.toNat).map fun (i : Nat) => PyData.int (i : Int)))
  | [.int i, .int j] => IF (-4611686018427387904 ≤ i ∧ i < 4611686018427387904 ∧ -4611686018427387904 ≤ j ∧ j < 4611686018427387904) (some ((List.range (j - i).toNat).map fun (k : Nat) => PyData.int (i + (k : Int))))
  | [.int i, .int j, .int c] => IF (c ≠ 0 ∧ c.natAbs < 1073741824 ∧ Builtin.Range.small i j c = true ∧ 0 ≤ Builtin.Range.rangeSize i j c) (some (rngD i c (Builtin.Range.rangeSize i j c).toNat))
  | _ => none
/-! ### the evaluator -/
abbrev Fun1 := Option O → List D → Option (Res × Option O)
abbrev Fn := Nat → Fun1
def Slot.o : Slot → Option O
  | .own o => some o
  | .io o => some o
  | .hid o => some o
  | _ => none
def ownAt (env : Env) (i : Nat) : Option O := match env[i]? with
  | some (.own o) => some o
  | some (.io o) => some o
  | some (.hid o) => some o
  | _ => none
def putO (env : Env) (i : Nat) (o : O) : Env := match env[i]? with
  | some (.own _) => env.set i (.own o)
  | some (.io _) => env.set i (.io o)
  | some (.hid _) => env.set i (.hid o)
  | _ => env
def rdV (env : Env) (i : Nat) : Option (D × Env) := match env[i]? with
  | some (.imm d) => some (d, env)
  | some (.own (.lst xs)) => some (.list xs, env.set i (.imm (.list xs)))
  | _ => none
/-- reading a slot whose object leaves it -/
def rdR (env : Env) (i : Nat) : Option (Res × Env) := match env[i]? with
  | some (.imm d) => some (.imm d, env)
  | some (.own (.lst xs)) => some (.own (.lst xs), env.set i .no)
  | some (.own (.ins c fs)) => some (.own (.ins c fs), env.set i .no)
  | _ => none
def putR : Res → Slot
  | .imm d => .imm d
  | .own o => .own o
def vOf : V → Option D
  | .non => some .none
  | .bl b => some (.bool b)
  | .int i => some (.int i)
  | .str s => some (.str s)
  | _ => none
def fz : Option (Res × Env) → Option (D × Env)
  | some (r, env) => some (r.d, env)
  | none => none
def ioB : Slot → Bool
  | .io _ => true
  | .hid _ => true
  | _ => false
/-- a slot of which no more is told than that it is no lent object -/
def gs : Option D → Slot
  | none => .no
  | some d => .imm d
theorem ioB_gs (o : Option D) : ioB (gs o) = false := by cases o <;> rfl
/-- the slots of a tuple's targets -/
def putT : Env → List Nat → List D → Option Env
  | env, [], [] => some env
  | env, i :: is, d :: ds => match env[i]? with
    | some s => if ioB s then none else putT (env.set i (.imm d)) is ds
    | none => none
  | _, _, _ => none
def put1 (env : Env) (i : Nat) (r : Res) : Option Env := match env[i]? with
  | some s => if ioB s then none else some (env.set i (putR r))
  | none => none
/-- a for's turns -/
def forL (f : Env → Option (Fl × Env)) (put : Env → D → Option Env) : List D → Env → Option (Fl × Env)
  | [], env => some (.next, env)
  | d :: ds, env => match put env d with
    | none => none
    | some env => match f env with
      | some (.next, env) => forL f put ds env
      | some (.cont, env) => forL f put ds env
      | some (.brk, env) => some (.next, env)
      | some (.ret r, env) => some (.ret r, env)
      | none => none
def isIo (env : Env) (j : Nat) : Bool := match env[j]? with
  | some (.io _) => true
  | some (.hid _) => true
  | _ => false
/-- a comprehension's turns -/
def compL (t : Env → Option (Bool × Env)) (f : Env → Option (D × Env)) (j : Nat) : List D → Env → Option (List D × Env)
  | [], env => some ([], env)
  | d :: ds, env => match t (env.set j (.imm d)) with
    | none => none
    | some (false, env) => if isIo env j then none else compL t f j ds env
    | some (true, env) => match f env with
      | none => none
      | some (y, env) => if isIo env j then none else match compL t f j ds env with
        | none => none
        | some (ys, env) => some (y :: ys, env)
def whileN (c : Env → Option (Bool × Env)) (b : Env → Option (Fl × Env)) : Nat → Env → Option (Fl × Env)
  | 0, _ => none
  | n + 1, env => match c env with
    | none => none
    | some (false, env) => some (.next, env)
    | some (true, env) => match b env with
      | some (.next, env) => whileN c b n env
      | some (.cont, env) => whileN c b n env
      | some (.brk, env) => some (.next, env)
      | some (.ret r, env) => some (.ret r, env)
      | none => none
open Classical in
noncomputable def whileS (c : Env → Option (Bool × Env)) (b : Env → Option (Fl × Env)) (env : Env) : Option (Fl × Env) :=
  if h : ∃ n x, whileN c b n env = some x then some (Classical.choose (Classical.choose_spec h)) else none
/-! ### the evaluator, by combinators -/
abbrev ME := Env → Option (Res × Env)
abbrev MT := Env → Option (Bool × Env)
abbrev MS := Env → Option (Fl × Env)
def cV (i : Nat) : ME := fun env => match rdV env i with
  | some (d, env) => some (.imm d, env)
  | none => none
def cC (d : D) : ME := fun env => some (.imm d, env)
def cGl (v : V) : ME := fun env => match vOf v with
  | some d => some (.imm d, env)
  | none => none
def cOp (o : Op2) (a b : ME) : ME := fun env => match fz (a env) with
  | none => none
  | some (x, env) => match fz (b env) with
    | none => none
    | some (y, env) => match opD o x y with
      | none => none
      | some r => some (r, env)
def cNeg (a : ME) : ME := fun env => match fz (a env) with
  | some (.int i, env) => some (.imm (.int (-i)), env)
  | _ => none
def cCmp (o : Cm) (a b : ME) : ME := fun env => match fz (a env) with
  | none => none
  | some (x, env) => match fz (b env) with
    | none => none
    | some (y, env) => match cmpD o x y with
      | none => none
      | some r => some (.imm (.bool r), env)
def cNot (a : ME) : ME := fun env => match fz (a env) with
  | some (.bool b, env) => some (.imm (.bool (!b)), env)
  | _ => none
def cIte (c : MT) (a b : ME) : ME := fun env => match c env with
  | some (true, env) => a env
  | some (false, env) => b env
  | none => none
abbrev MEs := Env → Option (List D × Env)
def cLst (es : MEs) : ME := fun env => match es env with
  | none => none
  | some (ds, env) => IF (ds.length ≤ sizeLine) (some (.own (.lst ds), env))
def cTup (es : MEs) : ME := fun env => match es env with
  | none => none
  | some (ds, env) => IF (ds.length ≤ sizeLine) (some (.imm (.tuple ds), env))
def cCall (Γ : Fn) (f : Nat) (es : MEs) : ME := fun env => match es env with
  | none => none
  | some (ds, env) => match Γ f none ds with
    | some (r, none) => some (r, env)
    | _ => none
def cCallIO (Γ : Fn) (f i : Nat) (es : MEs) : ME := fun env => match ownAt env i with
  | none => none
  | some _ => match es env with
    | none => none
    | some (ds, env) => match ownAt env i with
      | none => none
      | some o => IF o.IsL (match Γ f (some o) ds with
        | some (r, some o') => some (r, putO env i o')
        | _ => none)
def cBi (b : Bi) (es : MEs) : ME := fun env => match es env with
  | none => none
  | some (ds, env) => match biD b ds with
    | none => none
    | some r => some (r, env)
def cIsi (a : ME) (t : Ty) : ME := fun env => match fz (a env) with
  | none => none
  | some (x, env) => match isiD x t with
    | none => none
    | some b => some (.imm (.bool b), env)
abbrev MP := Env → Option (Option Int × Env)
def cIx (a e : ME) : ME := fun env => match fz (a env) with
  | none => none
  | some (x, env) => match fz (e env) with
    | none => none
    | some (y, env) => match ixD x y with
      | none => none
      | some d => some (.imm d, env)
def cSl (a : ME) (lo hi : MP) : ME := fun env => match fz (a env) with
  | none => none
  | some (x, env) => match lo env with
    | none => none
    | some (l, env) => match hi env with
      | none => none
      | some (h, env) => match slD x l h with
        | none => none
        | some r => some (r, env)
def esCons (e : ME) (es : MEs) : MEs := fun env => match fz (e env) with
  | none => none
  | some (d, env) => match es env with
    | none => none
    | some (ds, env) => some (d :: ds, env)
/-- a slot's own object is read as it stands; else the slot's datum -/
def cLenv (i : Nat) : ME := fun env => match ownAt env i with
  | some (.lst xs) => some (.imm (.int xs.length), env)
  | some (.stk _ ns) => some (.imm (.int ns.length), env)
  | some (.ins _ _) => none
  | none => cBi .len (esCons (cV i) fun env => some ([], env)) env
def cIxv (i : Nat) (e : ME) : ME := fun env => match ownAt env i with
  | none => cIx (cV i) e env
  | some _ => match fz (e env) with
    | some (.int k, env) => match ownAt env i with
      | some (.lst xs) => match atI xs k with
        | some d => some (.imm d, env)
        | none => none
      | _ => none
    | _ => none
def cSlv (i : Nat) (lo hi : MP) : ME := fun env => match ownAt env i with
  | none => cSl (cV i) lo hi env
  | some _ => match lo env with
    | none => none
    | some (l, env) => match hi env with
      | none => none
      | some (h, env) => match ownAt env i with
        | some (.lst xs) => some (.own (.lst (cutD xs l h)), env)
        | _ => none
def keepS : Slot → Bool
  | .no => true
  | .imm _ => true
  | _ => false
def cComp (elt : ME) (j : Nat) (src : MEs) (ts : MT) : ME := fun env => match src env with
  | none => none
  | some (ds, env) => match env[j]? with
    | none => none
    | some s => if keepS s then match compL ts (fun e => fz (elt e)) j ds (env.set j .no) with
      | none => none
      | some (ys, env) => IF (ds.length < sizeLine) (some (.own (.lst ys), env.set j s))
      else none
def cPopv (i : Nat) : ME := fun env => match ownAt env i with
  | some (.lst xs) => match xs[xs.length - 1]? with
    | some y => some (.imm y, putO env i (.lst xs.dropLast))
    | none => none
  | _ => none
def cMe (m : Me) (o a : ME) : ME := fun env => match fz (o env) with
  | none => none
  | some (x, env) => match fz (a env) with
    | none => none
    | some (y, env) => match meD m x y with
      | none => none
      | some r => some (r, env)
def cRev (a : ME) : ME := fun env => match fz (a env) with
  | none => none
  | some (x, env) => match revD x with
    | none => none
    | some r => some (r, env)
def putFD (f : Str) (d : D) : List (Str × D) → List (Str × D)
  | [] => [(f, d)]
  | (g, x) :: r => if g = f then (g, d) :: r else (g, x) :: putFD f d r
/-- the fields of a slot's object, of this class -/
def insAt (env : Env) (i : Nat) (c : Str) : Option (List (Str × D)) := match ownAt env i with
  | some (.ins c' fs) => if c' = c then some fs else none
  | _ => none
def cFld (i : Nat) (c f : Str) : ME := fun env => match insAt env i c with
  | some fs => match fs.lookup f with
    | some d => some (.imm d, env)
    | none => none
  | none => none
def cNew (Γ : Fn) (f : Nat) (c : Str) : ME := fun env => match Γ f (some (.ins c [])) [] with
  | some (.imm .none, some o) => some (.own o, env)
  | _ => none
def cMeth (Γ : Fn) (f i : Nat) (c m : Str) (es : MEs) : ME := fun env => match insAt env i c with
  | none => none
  | some fs => match fs.lookup m with
    | some _ => none
    | none => match es env with
      | none => none
      | some (ds, env) => match ownAt env i with
        | none => none
        | some o => IF o.IsL (match Γ f (some o) ds with
          | some (r, some o') => some (r, putO env i o')
          | _ => none)
/-- no other slot has a list of pairs -/
def onlyStk (env : Env) (i : Nat) : Prop := ∀ j b ns, ownAt env j = some (.stk b ns) → j = i
/-- the last pair of a list of pairs: its number, its list's length, its list -/
def cTopN (i : Nat) : ME := fun env => match env[i]? with
  | some (.own (.stk _ ns)) => match ns[ns.length - 1]? with
    | some n => some (.imm (.int n), env)
    | none => none
  | _ => none
def topAt (env : Env) (i : Nat) : Option (Nat × List Int × List D) := match env[i]? with
  | some (.own (.stk b ns)) => match ns with
    | [] => none
    | n :: ms => match env[b + ms.length]? with
      | some (.hid (.lst xs)) => some (b, n :: ms, xs)
      | _ => none
  | _ => none
def cTopLen (i : Nat) : ME := fun env => match topAt env i with
  | some (_, _, xs) => some (.imm (.int xs.length), env)
  | none => none
def cPopT (i : Nat) : ME := fun env => match topAt env i with
  | some (b, ns, xs) => IF (onlyStk env i ∧ xs.length ≤ sizeLine) (some (.imm (.tuple xs), (env.set i (.own (.stk b ns.dropLast))).set (b + (ns.length - 1)) .no))
  | none => none
/-- a value as a test -/
def tE (a : ME) : MT := fun env => match fz (a env) with
  | none => none
  | some (d, env) => match truD d with
    | some b => some (b, env)
    | none => none
def tV (i : Nat) : MT := fun env => match ownAt env i with
  | some (.lst xs) => some (!xs.isEmpty, env)
  | some (.stk _ ns) => some (!ns.isEmpty, env)
  | some (.ins _ _) => none
  | none => match rdV env i with
    | some (d, env) => match truD d with
      | some b => some (b, env)
      | none => none
    | none => none
def tNot (a : MT) : MT := fun env => match a env with
  | some (b, env) => some (!b, env)
  | none => none
/-- and, or as values -/
def bCons (k : Bool) (e r : ME) : ME := fun env => match fz (e env) with
  | some (.bool b, env) => if b = k then r env else some (.imm (.bool b), env)
  | _ => none
def tCons (k : Bool) (e r : MT) : MT := fun env => match e env with
  | some (b, env) => if b = k then r env else some (b, env)
  | none => none
def tsCons (e r : MT) : MT := fun env => match e env with
  | some (true, env) => r env
  | some (false, env) => some (false, env)
  | none => none
def pOne (e : ME) : MP := fun env => match fz (e env) with
  | some (.int i, env) => some (some i, env)
  | _ => none
def iIt (e : ME) : MEs := fun env => match fz (e env) with
  | none => none
  | some (d, env) => match itD d with
    | some ds => some (ds, env)
    | none => none
def iRng (es : MEs) : MEs := fun env => match es env with
  | none => none
  | some (ds, env) => match rangeD ds with
    | some ds => some (ds, env)
    | none => none
def enuD (xs : List D) : List D := (List.range xs.length).zipWith (fun (i : Nat) x => PyData.tuple [.int (i : Int), x]) xs
def iEnu (e : ME) : MEs := fun env => match fz (e env) with
  | some (.list xs, env) => some (enuD xs, env)
  | _ => none
/-- what an expression means: as a value, as a test -/
structure Me2 where
  e : ME
  t : MT
abbrev mE (f : ME) : Me2 := ⟨f, tE f⟩
/-- what expressions in a row mean: as arguments, as parts of and, or (values, tests), as tests of a comprehension, as a slice's part -/
structure Ms2 where
  es : MEs
  b : Bool → ME
  tb : Bool → MT
  ts : MT
  p : MP
def msNil : Ms2 := ⟨fun env => some ([], env), fun _ _ => none, fun _ _ => none, fun env => some (true, env), fun env => some (none, env)⟩
def msCons (last : Bool) (e : Me2) (r : Ms2) : Ms2 :=
  ⟨esCons e.e r.es, fun k => if last then e.e else bCons k e.e (r.b k), fun k => if last then e.t else tCons k e.t (r.tb k), tsCons e.t r.ts, if last then pOne e.e else fun _ => none⟩
def Es.isNil : Es → Bool
  | .nil => true
  | .cons _ _ => false
mutual
def evE (Γ : Fn) : E → Me2
  | .v i => ⟨cV i, tV i⟩
  | .int i => mE (cC (.int i))
  | .str s => mE (cC (.str s))
  | .bl b => mE (cC (.bool b))
  | .non => mE (cC .none)
  | .gl _ v => mE (cGl v)
  | .op o a b => mE (cOp o (evE Γ a).e (evE Γ b).e)
  | .neg a => mE (cNeg (evE Γ a).e)
  | .cmp o a b => mE (cCmp o (evE Γ a).e (evE Γ b).e)
  | .not a => ⟨cNot (evE Γ a).e, tNot (evE Γ a).t⟩
  | .bop k es => ⟨(evEs Γ es).b k, (evEs Γ es).tb k⟩
  | .ite c a b => ⟨cIte (evE Γ c).t (evE Γ a).e (evE Γ b).e, fun _ => none⟩
  | .lst es => mE (cLst (evEs Γ es).es)
  | .tup es => mE (cTup (evEs Γ es).es)
  | .call f es => mE (cCall Γ f (evEs Γ es).es)
  | .callIO f i es => mE (cCallIO Γ f i (evEs Γ es).es)
  | .bi b es => mE (cBi b (evEs Γ es).es)
  | .isi a t => mE (cIsi (evE Γ a).e t)
  | .lenv i => mE (cLenv i)
  | .ixv i e => mE (cIxv i (evE Γ e).e)
  | .slv i lo hi => mE (cSlv i (evEs Γ lo).p (evEs Γ hi).p)
  | .ix a e => mE (cIx (evE Γ a).e (evE Γ e).e)
  | .sl a lo hi => mE (cSl (evE Γ a).e (evEs Γ lo).p (evEs Γ hi).p)
  | .comp elt j src ifs => mE (cComp (evE Γ elt).e j (evI Γ src) (evEs Γ ifs).ts)
  | .popv i => mE (cPopv i)
  | .me m o a => mE (cMe m (evE Γ o).e (evE Γ a).e)
  | .rev a => mE (cRev (evE Γ a).e)
  | .topN i => mE (cTopN i)
  | .topLen i => mE (cTopLen i)
  | .popT i => mE (cPopT i)
  | .fld i c f => mE (cFld i c f)
  | .new f c => mE (cNew Γ f c)
  | .meth f i c m es => mE (cMeth Γ f i c m (evEs Γ es).es)
def evEs (Γ : Fn) : Es → Ms2
  | .nil => msNil
  | .cons e es => msCons es.isNil (evE Γ e) (evEs Γ es)
def evI (Γ : Fn) : I → MEs
  | .it e => iIt (evE Γ e).e
  | .rng1 a => iRng (esCons (evE Γ a).e msNil.es)
  | .rng2 a b => iRng (esCons (evE Γ a).e (esCons (evE Γ b).e msNil.es))
  | .rng3 a b c => iRng (esCons (evE Γ a).e (esCons (evE Γ b).e (esCons (evE Γ c).e msNil.es)))
  | .enu e => iEnu (evE Γ e).e
end
def sAsg (i : Nat) (e : ME) : MS := fun env => match e env with
  | none => none
  | some (r, env) => match put1 env i r with
    | some env => some (.next, env)
    | none => none
def sAsgT (is : List Nat) (e : ME) : MS := fun env => match fz (e env) with
  | some (.tuple ds, env) => match putT env is ds with
    | some env => some (.next, env)
    | none => none
  | _ => none
def sSetix (i : Nat) (k e : ME) : MS := fun env => match fz (e env) with
  | none => none
  | some (d, env) => match ownAt env i with
    | none => none
    | some _ => match fz (k env) with
      | some (.int n, env) => match ownAt env i with
        | some (.lst xs) => match ixN xs.length n with
          | some j => some (.next, putO env i (.lst (xs.set j d)))
          | none => none
        | _ => none
      | _ => none
def sApp (i : Nat) (e : ME) : MS := fun env => match ownAt env i with
  | some (.lst _) => match fz (e env) with
    | none => none
    | some (d, env) => match ownAt env i with
      | some (.lst xs) => IF (xs.length < sizeLine) (some (.next, putO env i (.lst (xs ++ [d]))))
      | _ => none
  | _ => none
def seqD : D → Option (List D)
  | .list xs => some xs
  | .tuple xs => some xs
  | _ => none
def sExt (i : Nat) (e : ME) : MS := fun env => match ownAt env i with
  | some (.lst _) => match fz (e env) with
    | some (d, env) => match seqD d with
      | none => none
      | some ys => match ownAt env i with
        | some (.lst xs) => IF (xs.length + ys.length ≤ sizeLine) (some (.next, putO env i (.lst (xs ++ ys))))
        | _ => none
    | none => none
  | _ => none
/-- a new list of pairs; its lists will stand from slot b on -/
def sMk (i b : Nat) : MS := fun env => match put1 env i (.own (.stk b [])) with
  | some env => some (.next, env)
  | none => none
def sPush (i b : Nat) (e : ME) : MS := fun env => match fz (e env) with
  | some (.int n, env) => match env[i]? with
    | some (.own (.stk b' ns)) => match env[b + ns.length]? with
      | some .no => IF (b = b' ∧ ns.length < sizeLine) (some (.next, (env.set i (.own (.stk b (ns ++ [n])))).set (b + ns.length) (.hid (.lst []))))
      | _ => none
    | _ => none
  | _ => none
/-- x.f = e -/
def sSetf (i : Nat) (c f : Str) (e : ME) : MS := fun env => match fz (e env) with
  | none => none
  | some (d, env) => match insAt env i c with
    | some fs => IF (fs.length < 1000) (some (.next, putO env i (.ins c (putFD f d fs))))
    | none => none
/-- x[-1][1].append(y): y a plain datum -/
def sTopApp (i j : Nat) : MS := fun env => match topAt env i with
  | some (b, ns, xs) => match env[j]? with
    | some (.imm d) => IF (xs.length < sizeLine) (some (.next, env.set (b + (ns.length - 1)) (.hid (.lst (xs ++ [d])))))
    | _ => none
  | none => none
def sExpr (e : ME) : MS := fun env => match fz (e env) with
  | none => none
  | some (_, env) => some (.next, env)
def sRet (e : ME) : MS := fun env => match e env with
  | none => none
  | some (r, env) => some (.ret r, env)
def sRetV (i : Nat) : MS := fun env => match rdR env i with
  | none => none
  | some (r, env) => some (.ret r, env)
def sIf (c : MT) (a b : MS) : MS := fun env => match c env with
  | some (true, env) => a env
  | some (false, env) => b env
  | none => none
def sFor (i : Nat) (src : MEs) (b : MS) : MS := fun env => match src env with
  | none => none
  | some (ds, env) => forL b (fun env d => put1 env i (.imm d)) ds env
def tupOf : D → Option (List D)
  | .tuple xs => some xs
  | _ => none
def sForT (is : List Nat) (src : MEs) (b : MS) : MS := fun env => match src env with
  | none => none
  | some (ds, env) => forL b (fun env d => match tupOf d with | some xs => putT env is xs | none => none) ds env
def sSeq (a b : MS) : MS := fun env => match a env with
  | some (.next, env) => b env
  | x => x
mutual
noncomputable def evS (Γ : Fn) : S → MS
  | .asg i e => sAsg i (evE Γ e).e
  | .asgT is e => sAsgT is (evE Γ e).e
  | .setix i k e => sSetix i (evE Γ k).e (evE Γ e).e
  | .app i e => sApp i (evE Γ e).e
  | .ext i e => sExt i (evE Γ e).e
  | .expr e => sExpr (evE Γ e).e
  | .ret e => match e with
    | .v i => sRetV i
    | e => sRet (evE Γ e).e
  | .retN => fun env => some (.ret (.imm .none), env)
  | .ife c a b => sIf (evE Γ c).t (evSs Γ a) (evSs Γ b)
  | .for_ i src b => sFor i (evI Γ src) (evSs Γ b)
  | .forT is src b => sForT is (evI Γ src) (evSs Γ b)
  | .while_ c b => whileS (evE Γ c).t (evSs Γ b)
  | .brk => fun env => some (.brk, env)
  | .cont => fun env => some (.cont, env)
  | .pass => fun env => some (.next, env)
  | .bad => fun _ => none
  | .mk i b => sMk i b
  | .push i b e => sPush i b (evE Γ e).e
  | .topApp i j => sTopApp i j
  | .setf i c f e => sSetf i c f (evE Γ e).e
noncomputable def evSs (Γ : Fn) : Ss → MS
  | .nil => fun env => some (.next, env)
  | .cons s ss => sSeq (evS Γ s) (evSs Γ ss)
end
/-- the lent object's end -/
def ioOf : Env → Option O
  | [] => none
  | .io o :: _ => some o
  | _ :: r => ioOf r
/-- a def of the text: how many slots, its body; or one that is proved apart, from a level on -/
inductive Df where
  | py (n : Nat) (body : Ss)
  | prim (l : Nat) (g : Fun1)
def env0 (n : Nat) (o : Option O) (ds : List D) : Env := ((match o with | some o => [Slot.io o] | none => []) ++ ds.map Slot.imm) ++ List.replicate (n - (ds.length + (if o.isSome then 1 else 0))) Slot.no
noncomputable def runD (Γ : Fn) (n : Nat) (body : Ss) : Fun1 := fun o ds => match evSs Γ body (env0 n o ds) with
  | some (.ret r, env) => some (r, ioOf env)
  | some (.next, env) => some (.imm .none, ioOf env)
  | _ => none
/-- the defs at a level -/
noncomputable def run (T : List Df) : Nat → Fn
  | 0 => fun _ _ _ => none
  | k + 1 => fun f => match T[f]? with
    | some (.py n body) => runD (run T k) n body
    | some (.prim l g) => if l ≤ k then g else fun _ _ => none
    | none => fun _ _ => none
example (Γ : Fn) (s : S) (ss : Ss) : evSs Γ (.cons s ss) = sSeq (evS Γ s) (evSs Γ ss) := rfl
example (Γ : Fn) (a b : E) : (evE Γ (.op .add a b)).e = cOp .add (evE Γ a).e (evE Γ b).e := rfl
end Z
end
/-! Zr: how slots of data stand in the abstract heap. -/
namespace Z
open PySem PySem.Spec PyProof.Rows L2
open Evl (Ex ex_rd ex_l ex_t)
/-! ### data in the heap -/
mutual
inductive Rp (K : PySem.W.Frag) (H : Hp) : V → D → Prop
  | non : Rp K H .non .none
  | bl (b : Bool) : Rp K H (.bl b) (.bool b)
  | int (i : Int) : Rp K H (.int i) (.int i)
  | str (x : Str) : Rp K H (.str x) (.str x)
  | lst {a : Addr} {xs : List V} {ds : List D} : H a = some (.lst xs) → RpAll K H xs ds → Rp K H (.ref a) (.list ds)
  | tup {a : Addr} {xs : List V} {ds : List D} : SqT K H a xs → RpAll K H xs ds → Rp K H (.ref a) (.tuple ds)
  | scr {a : Addr} {ns : List Int} : SqL K H a (ns.map V.int) → Rp K H (.ref a) (scrD ns)
  | junk {v : V} : Rp K H v junk
inductive RpAll (K : PySem.W.Frag) (H : Hp) : List V → List D → Prop
  | nil : RpAll K H [] []
  | cons {v : V} {vs : List V} {d : D} {ds : List D} : Rp K H v d → RpAll K H vs ds → RpAll K H (v :: vs) (d :: ds)
end
/-! ### data grow with the heap -/
section
variable {K : PySem.W.Frag} {B B' : Hp}
mutual
theorem dpM (e : Ex B B') : ∀ (d : D) {v : V}, Rp K B v d → Rp K B' v d
  | .none, _, h => by cases h; exact .non
  | .bool b, _, h => by cases h; exact .bl b
  | .int i, _, h => by cases h; exact .int i
  | .str x, _, h => by cases h; exact .str x
  | .list ds, _, h => by
    cases h with
    | lst hs ha => exact .lst (e _ _ hs) (dpAM e ds ha)
  | .tuple ds, _, h => by
    cases h with
    | tup hs ha => exact .tup (ex_t e hs) (dpAM e ds ha)
  | .dict kvs, v, h => by
    generalize hk : PyData.dict kvs = d at h
    cases h with
    | scr hs => exact .scr (ex_l e hs)
    | junk => exact .junk
    | _ => cases hk
theorem dpAM (e : Ex B B') : ∀ (ds : List D) {vs : List V}, RpAll K B vs ds → RpAll K B' vs ds
  | [], _, h => by cases h; exact .nil
  | d :: ds, _, h => by
    cases h with
    | cons h1 h2 => exact .cons (dpM e d h1) (dpAM e ds h2)
end
mutual
theorem Rp.dp : ∀ (d : D) {v : V}, Rp K B v d → PyData.canLay0 d = true → Dp K B v d
  | .none, _, h, _ => by cases h; exact .non
  | .bool b, _, h, _ => by cases h; exact .bl b
  | .int i, _, h, _ => by cases h; exact .int i
  | .str x, _, h, _ => by cases h; exact .str x
  | .list ds, _, h, c => by
    cases h with
    | lst hs ha => exact .lst (SqL.of hs) (RpAll.dp ds ha (by simpa [PyData.canLay0] using c))
  | .tuple ds, _, h, c => by
    cases h with
    | tup hs ha => exact .tup hs (RpAll.dp ds ha (by simpa [PyData.canLay0] using c))
  | .dict _, _, _, c => by simp [PyData.canLay0] at c
theorem RpAll.dp : ∀ (ds : List D) {vs : List V}, RpAll K B vs ds → PyData.canLayAll0 ds = true → DpAll K B vs ds
  | [], _, h, _ => by cases h; exact .nil
  | d :: ds, _, h, c => by
    cases h with
    | cons h1 h2 =>
      have c' : PyData.canLay0 d = true ∧ PyData.canLayAll0 ds = true := by simpa [PyData.canLayAll0] using c
      exact .cons (Rp.dp d h1 c'.1) (RpAll.dp ds h2 c'.2)
end
theorem dpA_len : ∀ {ds : List D} {vs : List V}, RpAll K B vs ds → vs.length = ds.length
  | [], _, h => by cases h; rfl
  | d :: ds, _, h => by
    cases h with
    | cons h1 h2 => rw [List.length_cons, List.length_cons, dpA_len h2]
theorem dpA_at : ∀ {ds : List D} {vs : List V} (i : Nat) {d : D}, RpAll K B vs ds → ds[i]? = some d → ∃ v, vs[i]? = some v ∧ Rp K B v d
  | [], _, i, d, h, e => by simp at e
  | d :: ds, _, 0, d', h, e => by
    cases h with
    | cons h1 h2 =>
      have e' : d = d' := by simpa using e
      subst e'
      exact ⟨_, rfl, h1⟩
  | d :: ds, _, i + 1, d', h, e => by
    cases h with
    | cons h1 h2 =>
      obtain ⟨v, a, b⟩ := dpA_at i h2 (by simpa using e)
      exact ⟨v, by simpa using a, b⟩
theorem dpA_at2 : ∀ {ds : List D} {vs : List V} (i : Nat) {v : V}, RpAll K B vs ds → vs[i]? = some v → ∃ d, ds[i]? = some d ∧ Rp K B v d
  | [], _, i, d, h, e => by cases h; simp at e
  | d :: ds, _, 0, v', h, e => by
    cases h with
    | cons h1 h2 =>
      cases (Option.some.inj e)
      exact ⟨_, rfl, h1⟩
  | d :: ds, _, i + 1, v', h, e => by
    cases h with
    | cons h1 h2 =>
      obtain ⟨v, a, b⟩ := dpA_at2 i h2 (by simpa using e)
      exact ⟨v, by simpa using a, b⟩
theorem dpA_app : ∀ {ds es : List D} {vs us : List V}, RpAll K B vs ds → RpAll K B us es → RpAll K B (vs ++ us) (ds ++ es)
  | [], _, _, _, h, g => by cases h; exact g
  | d :: ds, _, _, _, h, g => by
    cases h with
    | cons h1 h2 => exact .cons h1 (dpA_app h2 g)
theorem dpA_set : ∀ {ds : List D} {vs : List V} (i : Nat) {v : V} {d : D}, RpAll K B vs ds → Rp K B v d → RpAll K B (vs.set i v) (ds.set i d)
  | [], _, i, _, _, h, g => by cases h; exact .nil
  | d :: ds, _, 0, _, _, h, g => by
    cases h with
    | cons h1 h2 => exact .cons g h2
  | d :: ds, _, i + 1, _, _, h, g => by
    cases h with
    | cons h1 h2 => exact .cons h1 (dpA_set i h2 g)
theorem dpA_take : ∀ {ds : List D} {vs : List V} (n : Nat), RpAll K B vs ds → RpAll K B (vs.take n) (ds.take n)
  | _, _, 0, _ => .nil
  | [], _, n + 1, h => by cases h; exact .nil
  | d :: ds, _, n + 1, h => by
    cases h with
    | cons h1 h2 => exact .cons h1 (dpA_take n h2)
theorem dpA_drop : ∀ {ds : List D} {vs : List V} (n : Nat), RpAll K B vs ds → RpAll K B (vs.drop n) (ds.drop n)
  | _, _, 0, h => h
  | [], _, n + 1, h => by cases h; exact .nil
  | d :: ds, _, n + 1, h => by
    cases h with
    | cons h1 h2 => exact dpA_drop n h2
theorem dpA_cut {ds : List D} {vs : List V} (lo hi : Option Int) (h : RpAll K B vs ds) : RpAll K B (cutV vs lo hi) (cutD ds lo hi) := by
  unfold cutV cutD
  rw [dpA_len h]
  exact dpA_take _ (dpA_drop _ h)
theorem dpA_dropLast {ds : List D} {vs : List V} (h : RpAll K B vs ds) : RpAll K B vs.dropLast ds.dropLast := by
  rw [List.dropLast_eq_take, List.dropLast_eq_take, dpA_len h]
  exact dpA_take _ h
theorem dpA_rep {ds : List D} {vs : List V} (h : RpAll K B vs ds) : ∀ n : Nat, RpAll K B (List.replicate n vs).flatten (List.replicate n ds).flatten
  | 0 => .nil
  | n + 1 => by
    rw [List.replicate_succ, List.replicate_succ, List.flatten_cons, List.flatten_cons]
    exact dpA_app h (dpA_rep h n)
theorem atI_dp {ds : List D} {vs : List V} {i : Int} {d : D} (h : RpAll K B vs ds) (e : atI ds i = some d) : ∃ v, atI vs i = some v ∧ Rp K B v d := by
  unfold atI at e ⊢
  rw [dpA_len h]
  cases q : ixN ds.length i with
  | none =>
    rw [q] at e
    cases e
  | some j =>
    rw [q] at e
    exact dpA_at j h e
end
/-! ### the relation -/
/-- a function's entry: what it is told of, its heap, the object that is lent to it -/
structure Fx where
  B0 : Hp
  H0 : Hp
  io : Option Addr
/-- an instance's fields -/
inductive FRel (K : PySem.W.Frag) (B : Hp) : List (Str × V) → List (Str × D) → Prop
  | nil : FRel K B [] []
  | cons {f : Str} {v : V} {d : D} {fv : List (Str × V)} {fs : List (Str × D)} : Rp K B v d → FRel K B fv fs → FRel K B ((f, v) :: fv) ((f, d) :: fs)
theorem FRel.mono {K : PySem.W.Frag} {B B' : Hp} (e : Ex B B') : ∀ {fv : List (Str × V)} {fs : List (Str × D)}, FRel K B fv fs → FRel K B' fv fs
  | _, _, .nil => .nil
  | _, _, .cons h t => .cons (dpM e _ h) (t.mono e)
theorem FRel.len {K : PySem.W.Frag} {B : Hp} : ∀ {fv : List (Str × V)} {fs : List (Str × D)}, FRel K B fv fs → fv.length = fs.length
  | _, _, .nil => rfl
  | _, _, .cons _ t => by rw [List.length_cons, List.length_cons, t.len]
theorem FRel.get {K : PySem.W.Frag} {B : Hp} {f : Str} {d : D} : ∀ {fv : List (Str × V)} {fs : List (Str × D)}, FRel K B fv fs → fs.lookup f = some d → ∃ v, fv.lookup f = some v ∧ Rp K B v d
  | _, _, .nil, e => by cases e
  | _, _, .cons (f := g) h t, e => by
    rw [List.lookup_cons] at e
    rw [List.lookup_cons]
    cases q : f == g with
    | true =>
      rw [q] at e
      cases e
      exact ⟨_, rfl, h⟩
    | false =>
      rw [q] at e
      exact t.get e
theorem FRel.none_of {K : PySem.W.Frag} {B : Hp} {f : Str} : ∀ {fv : List (Str × V)} {fs : List (Str × D)}, FRel K B fv fs → fs.lookup f = none → fv.lookup f = none
  | _, _, .nil, _ => rfl
  | _, _, .cons (f := g) h t, e => by
    rw [List.lookup_cons] at e
    rw [List.lookup_cons]
    cases q : f == g with
    | true =>
      rw [q] at e
      cases e
    | false =>
      rw [q] at e
      exact t.none_of e
theorem FRel.put {K : PySem.W.Frag} {B : Hp} {f : Str} {v : V} {d : D} (hd : Rp K B v d) : ∀ {fv : List (Str × V)} {fs : List (Str × D)}, FRel K B fv fs → FRel K B (putF f v fv) (putFD f d fs)
  | _, _, .nil => .cons hd .nil
  | _, _, .cons (f := g) h t => by
    unfold putF putFD
    by_cases q : g = f
    · rw [if_pos q, if_pos q]
      exact .cons hd t
    · rw [if_neg q, if_neg q]
      exact .cons h (t.put hd)
inductive OOk (K : PySem.W.Frag) (B : Hp) : HO → O → Prop
  | lst {vs : List V} {ds : List D} : RpAll K B vs ds → OOk K B (.lst vs) (.lst ds)
  | stk {vs : List V} {b : Nat} {ns : List Int} : OOk K B (.lst vs) (.stk b ns)
  | ins {dx : Addr} {fv : List (Str × V)} {fs : List (Str × D)} {c : Str} : FRel K B fv fs → OOk K B (.ins (He.ga K c) dx fv) (.ins c fs)
/-- a list of data, an instance -/
inductive OLk (K : PySem.W.Frag) (B : Hp) : HO → O → Prop
  | lst {vs : List V} {ds : List D} : RpAll K B vs ds → OLk K B (.lst vs) (.lst ds)
  | ins {dx : Addr} {fv : List (Str × V)} {fs : List (Str × D)} {c : Str} : FRel K B fv fs → OLk K B (.ins (He.ga K c) dx fv) (.ins c fs)
theorem OOk.mono {K : PySem.W.Frag} {B B' : Hp} {ho : HO} {o : O} (e : Ex B B') (h : OOk K B ho o) : OOk K B' ho o := by
  cases h with
  | lst h => exact .lst (dpAM e _ h)
  | stk => exact .stk
  | ins h => exact .ins (h.mono e)
theorem OLk.mono {K : PySem.W.Frag} {B B' : Hp} {ho : HO} {o : O} (e : Ex B B') (h : OLk K B ho o) : OLk K B' ho o := by
  cases h with
  | lst h => exact .lst (dpAM e _ h)
  | ins h => exact .ins (h.mono e)
theorem OLk.toO {K : PySem.W.Frag} {B : Hp} {ho : HO} {o : O} (h : OLk K B ho o) : OOk K B ho o := by
  cases h with
  | lst h => exact .lst h
  | ins h => exact .ins h
theorem OLk.ok {K : PySem.W.Frag} {B : Hp} {ho : HO} {o : O} (h : OLk K B ho o) : o.IsL := by
  cases h with
  | lst h => exact .inl ⟨_, rfl⟩
  | ins h => exact .inr ⟨_, _, rfl⟩
theorem OLk.of {K : PySem.W.Frag} {B : Hp} {ho : HO} {o : O} (h : OOk K B ho o) (hl : o.IsL) : OLk K B ho o := by
  cases h with
  | lst h => exact .lst h
  | stk =>
    rcases hl with ⟨xs, e⟩ | ⟨c, fs, e⟩ <;> cases e
  | ins h => exact .ins h
theorem IsL_stk {o : O} (h : o.IsL) (b : Nat) (ns : List Int) : o ≠ .stk b ns := fun e => by
  subst e
  rcases h with ⟨xs, e⟩ | ⟨c, fs, e⟩ <;> cases e
theorem OLk.dp {K : PySem.W.Frag} {B B' : Hp} {ho : HO} {o : O} {p : Addr} (e : Ex B B') (h : OLk K B ho o) (hp : B' p = some ho) : Rp K B' (.ref p) o.d := by
  cases h with
  | lst h => exact .lst hp (dpAM e _ h)
  | ins h => exact .junk
/-- a list of pairs, by the hidden slots from b on -/
def StkT (B : Hp) (ad : Nat → Addr) (env : Env) (ho : HO) (b : Nat) (ns : List Int) : Prop := ∃ vs, ho = .lst vs ∧ vs.length = ns.length ∧
  ∀ k n, ns[k]? = some n → (∃ o, env[b + k]? = some (.hid o)) ∧ ∃ t, vs[k]? = some (.ref t) ∧ B t = some (.tup [.int n, .ref (ad (b + k))])
theorem StkT.mono {B B' : Hp} {ad ad' : Nat → Addr} {env env' : Env} {ho : HO} {b : Nat} {ns : List Int} (h : StkT B ad env ho b ns) (eB : Ex B B')
    (hh : ∀ j o, (∃ k, k < ns.length ∧ j = b + k) → env[j]? = some (.hid o) → (∃ o', env'[j]? = some (.hid o')) ∧ ad' j = ad j) : StkT B' ad' env' ho b ns := by
  obtain ⟨vs, h1, h2, h3⟩ := h
  refine ⟨vs, h1, h2, fun k n e => ?_⟩
  obtain ⟨⟨o, h4⟩, t, h5, h6⟩ := h3 k n e
  obtain ⟨h7, h8⟩ := hh (b + k) o ⟨k, (List.getElem?_eq_some_iff.mp e).1, rfl⟩ h4
  exact ⟨h7, t, h5, by rw [h8]; exact eB _ _ h6⟩
def upA (ad : Nat → Addr) (i : Nat) (p : Addr) : Nat → Addr := fun j => if j = i then p else ad j
structure Rel (K : PySem.W.Frag) (F : Fx) (B : Hp) (ad : Nat → Addr) (env : Env) (σ : L2.St) (H : Hp) : Prop where
  ex : Ex B H
  ex0 : Ex F.B0 B
  fr : ∀ a o, B a = some o → F.B0 a = some o ∨ F.H0 a = none
  kp : ∀ a o, F.io ≠ some a → F.H0 a = some o → H a = some o
  len : σ.length = env.length
  imm : ∀ (i : Nat) (d : D), env[i]? = some (.imm d) → ∃ v, σ[i]? = some (some v) ∧ Rp K B v d
  own : ∀ (i : Nat) (o : O), ownAt env i = some o → σ[i]? = some (some (.ref (ad i))) ∧ B (ad i) = none ∧ ∃ ho, H (ad i) = some ho ∧ OOk K B ho o
  nw : ∀ (i : Nat) (o : O), env[i]? = some (.own o) → F.H0 (ad i) = none
  iow : ∀ (i : Nat) (o : O), env[i]? = some (.io o) → F.io = some (ad i)
  inj : ∀ (i j : Nat) (o o' : O), ownAt env i = some o → ownAt env j = some o' → ad i = ad j → i = j
  ioh : ∀ a, F.io = some a → ∃ (i : Nat) (o : O), env[i]? = some (.io o) ∧ ad i = a
  nwh : ∀ (i : Nat) (o : O), env[i]? = some (.hid o) → F.H0 (ad i) = none
  iol : ∀ (i : Nat) (o : O), env[i]? = some (.io o) → o.IsL
  stk : ∀ (i b : Nat) (ns : List Int), ownAt env i = some (.stk b ns) → ∃ ho, H (ad i) = some ho ∧ StkT B ad env ho b ns
inductive ROk (K : PySem.W.Frag) (F : Fx) (B : Hp) (ad : Nat → Addr) (env : Env) (H : Hp) : V → Res → Prop
  | imm {v : V} {d : D} : Rp K B v d → ROk K F B ad env H v (.imm d)
  | own {p : Addr} {ho : HO} {o : O} : H p = some ho → OLk K B ho o → B p = none → F.H0 p = none → (∀ j o', ownAt env j = some o' → ad j ≠ p) → ROk K F B ad env H (.ref p) (.own o)
theorem ownAt_own {env : Env} {i : Nat} {o : O} (h : env[i]? = some (.own o)) : ownAt env i = some o := by unfold ownAt; rw [h]
theorem ownAt_io {env : Env} {i : Nat} {o : O} (h : env[i]? = some (.io o)) : ownAt env i = some o := by unfold ownAt; rw [h]
theorem ownAt_hid {env : Env} {i : Nat} {o : O} (h : env[i]? = some (.hid o)) : ownAt env i = some o := by unfold ownAt; rw [h]
theorem ownAt_or {env : Env} {i : Nat} {o : O} (h : ownAt env i = some o) : env[i]? = some (.own o) ∨ env[i]? = some (.io o) ∨ env[i]? = some (.hid o) := by
  unfold ownAt at h
  split at h
  · cases h
    left
    assumption
  · cases h
    right
    left
    assumption
  · cases h
    right
    right
    assumption
  · cases h
theorem ownAt_lt {env : Env} {i : Nat} {o : O} (h : ownAt env i = some o) : i < env.length := by
  rcases ownAt_or h with h | h | h <;> exact (List.getElem?_eq_some_iff.mp h).1
theorem ownAt_set_ne {env : Env} {i j : Nat} {s : Slot} (h : i ≠ j) : ownAt (env.set i s) j = ownAt env j := by
  unfold ownAt
  rw [List.getElem?_set_ne h]
theorem ownAt_set {env : Env} {i : Nat} {s : Slot} (h : i < env.length) : ownAt (env.set i s) i = s.o := by
  unfold ownAt
  rw [List.getElem?_set_self h]
  cases s <;> rfl
section
variable {K : PySem.W.Frag} {F : Fx} {B : Hp} {ad : Nat → Addr} {env : Env} {σ : L2.St} {H : Hp}
theorem Rel.fresh (R : Rel K F B ad env σ H) {p : Addr} (h : H p = none) : F.H0 p = none := by
  cases e : F.H0 p with
  | none => rfl
  | some o =>
    by_cases q : F.io = some p
    · obtain ⟨i, o', h1, h2⟩ := R.ioh p q
      obtain ⟨_, _, ho, h3, _⟩ := R.own i o' (ownAt_io h1)
      rw [h2, h] at h3
      cases h3
    · have := R.kp p o q e
      rw [h] at this
      cases this
theorem Rel.noB (R : Rel K F B ad env σ H) {p : Addr} (h : H p = none) : B p = none := by
  cases e : B p with
  | none => rfl
  | some o =>
    have := R.ex p o e
    rw [h] at this
    cases this
theorem Rel.ne (R : Rel K F B ad env σ H) {p : Addr} (h : H p = none) {j : Nat} {o : O} (g : ownAt env j = some o) : ad j ≠ p := fun e => by
  obtain ⟨_, _, ho, h3, _⟩ := R.own j o g
  rw [e, h] at h3
  cases h3
/-- a new object, left aside -/
theorem Rel.alloc (R : Rel K F B ad env σ H) {p : Addr} (h : H p = none) (ho : HO) : Rel K F B ad env σ (upd H p ho) where
  ex := fun a o e => by
    rw [upd_ne (ne_of_none (R.ex a o e) h)]
    exact R.ex a o e
  ex0 := R.ex0
  fr := R.fr
  kp := fun a o e1 e2 => by
    have q := R.kp a o e1 e2
    rw [upd_ne (ne_of_none q h)]
    exact q
  len := R.len
  imm := R.imm
  own := fun i o e => by
    obtain ⟨a, b, ho', c, d⟩ := R.own i o e
    exact ⟨a, b, ho', by rw [upd_ne (ne_of_none c h)]; exact c, d⟩
  nw := R.nw
  iow := R.iow
  inj := R.inj
  ioh := R.ioh
  nwh := R.nwh
  iol := R.iol
  stk := fun i b ns e => by
    obtain ⟨ho', c, d⟩ := R.stk i b ns e
    exact ⟨ho', by rw [upd_ne (ne_of_none c h)]; exact c, d⟩
/-- an object known to the heap alone becomes one of the data -/
theorem Rel.know (R : Rel K F B ad env σ H) {p : Addr} {ho : HO} (h : H p = some ho) (h0 : F.H0 p = none) (hb : B p = none) (hn : ∀ j o', ownAt env j = some o' → ad j ≠ p) : Rel K F (upd B p ho) ad env σ H ∧ Ex B (upd B p ho) := by
  have eB : Ex B (upd B p ho) := fun a o e => by
    rw [upd_ne (ne_of_none e hb)]
    exact e
  refine ⟨⟨fun a o e => ?_, fun a o e => eB a o (R.ex0 a o e), fun a o e => ?_, R.kp, R.len, fun i d e => ?_, fun i o e => ?_, R.nw, R.iow, R.inj, R.ioh, R.nwh, R.iol, fun i b ns e => ?_⟩, eB⟩
  · by_cases q : a = p
    · subst q
      rw [upd_same] at e
      rw [← e]
      exact h
    · rw [upd_ne q] at e
      exact R.ex a o e
  · by_cases q : a = p
    · subst q
      exact .inr h0
    · rw [upd_ne q] at e
      exact R.fr a o e
  · obtain ⟨v, a, b⟩ := R.imm i d e
    exact ⟨v, a, dpM eB d b⟩
  · obtain ⟨a, b, ho', c, d⟩ := R.own i o e
    exact ⟨a, by rw [upd_ne (hn i o e)]; exact b, ho', c, d.mono eB⟩
  · obtain ⟨ho', c, d⟩ := R.stk i b ns e
    exact ⟨ho', c, d.mono eB fun j o _ z => ⟨⟨o, z⟩, rfl⟩⟩
theorem Rel.grow (R : Rel K F B ad env σ H) {p : Addr} (h : H p = none) (ho : HO) : Rel K F (upd B p ho) ad env σ (upd H p ho) ∧ Ex B (upd B p ho) :=
  (R.alloc h ho).know upd_same (R.fresh h) (R.noB h) fun j o' g => R.ne h g
/-- what an expression gave, as a datum -/
theorem ROk.fz {v : V} {r : Res} {env' : Env} (R : Rel K F B ad env' σ H) (h : ROk K F B ad env' H v r) : ∃ B', Ex B B' ∧ Rel K F B' ad env' σ H ∧ Rp K B' v r.d := by
  cases h with
  | imm h => exact ⟨B, Ex.refl B, R, h⟩
  | own h1 h2 h3 h4 h5 =>
    obtain ⟨R', e⟩ := R.know h1 h4 h3 h5
    exact ⟨_, e, R', h2.dp e upd_same⟩
/-- an object that is kept as it stands through what comes -/
def Fx.hold (F : Fx) (p : Addr) (ho : HO) : Fx := ⟨F.B0, upd F.H0 p ho, F.io⟩
theorem Rel.hold (R : Rel K F B ad env σ H) {p : Addr} {ho : HO} (h : H p = some ho) (hb : B p = none) (hn : ∀ k o, ownAt env k = some o → ad k ≠ p) : Rel K (F.hold p ho) B ad env σ H := by
  refine ⟨R.ex, R.ex0, fun a o e => ?_, fun a o e1 e2 => ?_, R.len, R.imm, R.own, fun i o e => ?_, R.iow, R.inj, R.ioh, fun i o e => ?_, R.iol, R.stk⟩
  · have q : a ≠ p := fun z => by rw [z, hb] at e; cases e
    rcases R.fr a o e with e | e
    · exact .inl e
    · right
      show upd F.H0 p ho a = none
      rw [upd_ne q]
      exact e
  · have e2 : upd F.H0 p ho a = some o := e2
    by_cases q : a = p
    · subst q
      rw [upd_same] at e2
      rw [← e2]
      exact h
    · rw [upd_ne q] at e2
      exact R.kp a o e1 e2
  · show upd F.H0 p ho (ad i) = none
    rw [upd_ne (hn i o (ownAt_own e))]
    exact R.nw i o e
  · show upd F.H0 p ho (ad i) = none
    rw [upd_ne (hn i o (ownAt_hid e))]
    exact R.nwh i o e
theorem Rel.unhold {p : Addr} {ho : HO} (R : Rel K (F.hold p ho) B ad env σ H) (hio : F.io ≠ some p) (h0 : F.H0 p = none) (hb0 : F.B0 p = none) : Rel K F B ad env σ H ∧ H p = some ho ∧ B p = none ∧ ∀ k o, ownAt env k = some o → ad k ≠ p := by
  have ne : ∀ k o, ownAt env k = some o → ad k ≠ p := fun k o e z => by
    rcases ownAt_or e with e | e | e
    · have q : upd F.H0 p ho (ad k) = none := R.nw k o e
      rw [z, upd_same] at q
      cases q
    · have q : F.io = some (ad k) := R.iow k o e
      rw [z] at q
      exact hio q
    · have q : upd F.H0 p ho (ad k) = none := R.nwh k o e
      rw [z, upd_same] at q
      cases q
  have hb : B p = none := by
    cases e : B p with
    | none => rfl
    | some o =>
      rcases R.fr p o e with q | q
      · have q : F.B0 p = some o := q
        rw [hb0] at q
        cases q
      · have q : upd F.H0 p ho p = none := q
        rw [upd_same] at q
        cases q
  refine ⟨⟨R.ex, R.ex0, fun a o e => ?_, fun a o e1 e2 => ?_, R.len, R.imm, R.own, fun i o e => ?_, R.iow, R.inj, R.ioh, fun i o e => ?_, R.iol, R.stk⟩, R.kp p ho hio upd_same, hb, ne⟩
  · rcases R.fr a o e with q | q
    · exact .inl q
    · right
      have q : upd F.H0 p ho a = none := q
      by_cases z : a = p
      · rw [z, upd_same] at q
        cases q
      · rw [upd_ne z] at q
        exact q
  · have z : a ≠ p := fun z => by
      rw [z, h0] at e2
      cases e2
    exact R.kp a o e1 (by show upd F.H0 p ho a = some o; rw [upd_ne z]; exact e2)
  · have q : upd F.H0 p ho (ad i) = none := R.nw i o e
    rw [upd_ne (ne i o (ownAt_own e))] at q
    exact q
  · have q : upd F.H0 p ho (ad i) = none := R.nwh i o e
    rw [upd_ne (ne i o (ownAt_hid e))] at q
    exact q
/-- behind a call: what was told of still stands -/
theorem Rel.callee (R : Rel K F B ad env σ H) {B' H' : Hp} (x : Ex B B') (fr : ∀ a o, B' a = some o → B a = some o ∨ H a = none) (x2 : Ex B' H') (kp : Ex H H') : Rel K F B' ad env σ H' := by
  refine ⟨x2, R.ex0.trans x, fun a o e => ?_, fun a o e1 e2 => kp a o (R.kp a o e1 e2), R.len, fun i d e => ?_, fun i o e => ?_, R.nw, R.iow, R.inj, R.ioh, R.nwh, R.iol, fun i b ns e => ?_⟩
  · rcases fr a o e with e | e
    · exact R.fr a o e
    · exact .inr (R.fresh e)
  · obtain ⟨v, a, b⟩ := R.imm i d e
    exact ⟨v, a, dpM x d b⟩
  · obtain ⟨a, b, ho, c, d⟩ := R.own i o e
    refine ⟨a, ?_, ho, kp _ _ c, d.mono x⟩
    cases q : B' (ad i) with
    | none => rfl
    | some u =>
      rcases fr _ u q with q | q
      · rw [b] at q
        cases q
      · rw [c] at q
        cases q
  · obtain ⟨ho', c, d⟩ := R.stk i b ns e
    exact ⟨ho', kp _ _ c, d.mono x fun j o _ z => ⟨⟨o, z⟩, rfl⟩⟩
/-- a slot's own object becomes a datum -/
theorem Rel.freeze (R : Rel K F B ad env σ H) {i : Nat} {ds : List D} (h : env[i]? = some (.own (.lst ds))) : ∃ B', Ex B B' ∧ Rel K F B' ad (env.set i (.imm (.list ds))) σ H ∧ Rp K B' (.ref (ad i)) (.list ds) := by
  obtain ⟨o, eo⟩ : ∃ o : O, o = .lst ds := ⟨_, rfl⟩
  have hod : PyData.list ds = o.d := by rw [eo]; rfl
  rw [← eo] at h
  rw [hod]
  have hi : i < env.length := (List.getElem?_eq_some_iff.mp h).1
  obtain ⟨h1, h2, ho, h3, h4'⟩ := R.own i o (ownAt_own h)
  have h4 : OLk K B ho o := by
    exact OLk.of h4' (.inl ⟨_, eo⟩)
  clear hod eo h4'
  have eB : Ex B (upd B (ad i) ho) := fun a u e => by
    rw [upd_ne (ne_of_none e h2)]
    exact e
  have hd : Rp K (upd B (ad i) ho) (.ref (ad i)) o.d := h4.dp eB upd_same
  have back : ∀ j o', ownAt (env.set i (.imm o.d)) j = some o' → j ≠ i ∧ ownAt env j = some o' := fun j o' e => by
    by_cases q : j = i
    · subst q
      rw [ownAt_set hi] at e
      cases e
    · rw [ownAt_set_ne (Ne.symm q)] at e
      exact ⟨q, e⟩
  have backE : ∀ (j : Nat) (o' : O), (env.set i (.imm o.d))[j]? = some (.own o') ∨ (env.set i (.imm o.d))[j]? = some (.io o') ∨ (env.set i (.imm o.d))[j]? = some (.hid o') → env[j]? = (env.set i (.imm o.d))[j]? := fun j o' e => by
    by_cases q : j = i
    · subst q
      rw [List.getElem?_set_self hi] at e
      rcases e with e | e | e <;> cases e
    · rw [List.getElem?_set_ne (Ne.symm q)]
  refine ⟨_, eB, ⟨fun a u e => ?_, fun a u e => eB a u (R.ex0 a u e), fun a u e => ?_, R.kp, by rw [List.length_set]; exact R.len, fun j d e => ?_, fun j o' e => ?_, fun j o' e => ?_, fun j o' e => ?_, fun j k o' o'' e e' => ?_, fun a e => ?_, fun j o' e => ?_, fun j o' e => ?_, fun j b ns e => ?_⟩, hd⟩
  · by_cases q : a = ad i
    · subst q
      rw [upd_same] at e
      rw [← e]
      exact h3
    · rw [upd_ne q] at e
      exact R.ex a u e
  · by_cases q : a = ad i
    · subst q
      exact .inr (R.nw i o h)
    · rw [upd_ne q] at e
      exact R.fr a u e
  · by_cases q : j = i
    · subst q
      rw [List.getElem?_set_self hi] at e
      cases e
      exact ⟨_, h1, hd⟩
    · rw [List.getElem?_set_ne (Ne.symm q)] at e
      obtain ⟨v, a, b⟩ := R.imm j d e
      exact ⟨v, a, dpM eB d b⟩
  · obtain ⟨q, e⟩ := back j o' e
    obtain ⟨a, b, ho', c, d⟩ := R.own j o' e
    exact ⟨a, by rw [upd_ne fun z => q (R.inj j i o' o e (ownAt_own h) z)]; exact b, ho', c, d.mono eB⟩
  · exact R.nw j o' (by rw [backE j o' (.inl e)]; exact e)
  · exact R.iow j o' (by rw [backE j o' (.inr (.inl e))]; exact e)
  · exact R.inj j k o' o'' (back j o' e).2 (back k o'' e').2
  · obtain ⟨j, o', a1, a2⟩ := R.ioh a e
    refine ⟨j, o', ?_, a2⟩
    rw [List.getElem?_set_ne fun z => ?_]
    · exact a1
    · subst z
      rw [h] at a1
      cases a1
  · exact R.nwh j o' (by rw [backE j o' (.inr (.inr e))]; exact e)
  · exact R.iol j o' (by rw [backE j o' (.inr (.inl e))]; exact e)
  · obtain ⟨q, e⟩ := back j _ e
    obtain ⟨ho', c, d⟩ := R.stk j b ns e
    refine ⟨ho', c, d.mono eB fun j' o' _ z => ⟨⟨o', ?_⟩, rfl⟩⟩
    rw [List.getElem?_set_ne fun z' => ?_]
    · exact z
    · subst z'
      rw [h] at z
      cases z
/-- a slot's own object is changed -/
theorem Rel.setO (R : Rel K F B ad env σ H) {i : Nat} {o o' : O} {ho' : HO} (h : ownAt env i = some o) (h' : OOk K B ho' o') (hlx : o'.IsL ∨ ∀ (q : O), env[i]? ≠ some (Slot.io q) := by exact .inl (.inl ⟨_, rfl⟩)) (hst : ∀ b ns, o' = .stk b ns → StkT B ad env ho' b ns := by intro _ _ z; cases z) : Rel K F B ad (putO env i o') σ (upd H (ad i) ho') := by
  have hi : i < env.length := ownAt_lt h
  obtain ⟨h1, h2, ho, h3, h4⟩ := R.own i o h
  have hl : (putO env i o').length = env.length := by
    unfold putO
    split <;> simp
  have hne : ∀ j, j ≠ i → (putO env i o')[j]? = env[j]? := fun j q => by
    unfold putO
    split
    · exact List.getElem?_set_ne (Ne.symm q)
    · exact List.getElem?_set_ne (Ne.symm q)
    · exact List.getElem?_set_ne (Ne.symm q)
    · rfl
  have hs : (env[i]? = some (.own o) ∧ (putO env i o')[i]? = some (.own o')) ∨ (env[i]? = some (.io o) ∧ (putO env i o')[i]? = some (.io o')) ∨ (env[i]? = some (.hid o) ∧ (putO env i o')[i]? = some (.hid o')) := by
    rcases ownAt_or h with e | e | e
    · left
      refine ⟨e, ?_⟩
      unfold putO
      rw [e]
      exact List.getElem?_set_self hi
    · right
      left
      refine ⟨e, ?_⟩
      unfold putO
      rw [e]
      exact List.getElem?_set_self hi
    · right
      right
      refine ⟨e, ?_⟩
      unfold putO
      rw [e]
      exact List.getElem?_set_self hi
  have ho : ∀ j, j ≠ i → ownAt (putO env i o') j = ownAt env j := fun j q => by
    unfold ownAt
    rw [hne j q]
  have hself : ownAt (putO env i o') i = some o' := by
    rcases hs with ⟨_, e⟩ | ⟨_, e⟩ | ⟨_, e⟩
    · exact ownAt_own e
    · exact ownAt_io e
    · exact ownAt_hid e
  have hh : ∀ (j : Nat) (u : O), env[j]? = some (Slot.hid u) → ∃ u' : O, (putO env i o')[j]? = some (Slot.hid u') := fun j u e => by
    by_cases q : j = i
    · subst q
      rcases hs with ⟨z, _⟩ | ⟨z, _⟩ | ⟨_, z⟩
      · rw [e] at z
        cases z
      · rw [e] at z
        cases z
      · exact ⟨_, z⟩
    · exact ⟨u, by rw [hne j q]; exact e⟩
  have some_of : ∀ j u, ownAt (putO env i o') j = some u → ∃ u', ownAt env j = some u' := fun j u e => by
    by_cases q : j = i
    · subst q
      exact ⟨o, h⟩
    · rw [ho j q] at e
      exact ⟨u, e⟩
  refine ⟨fun a u e => ?_, R.ex0, R.fr, fun a u e1 e2 => ?_, by rw [hl]; exact R.len, fun j d e => ?_, fun j u e => ?_, fun j u e => ?_, fun j u e => ?_, fun j k u u' e e' => ?_, fun a e => ?_, fun j u e => ?_, fun j u e => ?_, fun j b ns e => ?_⟩
  · rw [upd_ne (ne_of_none e h2)]
    exact R.ex a u e
  · have q : a ≠ ad i := fun z => by
      subst z
      rcases ownAt_or h with e | e | e
      · rw [R.nw i o e] at e2
        cases e2
      · exact e1 (R.iow i o e)
      · rw [R.nwh i o e] at e2
        cases e2
    rw [upd_ne q]
    exact R.kp a u e1 e2
  · by_cases q : j = i
    · subst q
      rcases hs with ⟨_, z⟩ | ⟨_, z⟩ | ⟨_, z⟩ <;> rw [z] at e <;> cases e
    · rw [hne j q] at e
      exact R.imm j d e
  · by_cases q : j = i
    · subst q
      rw [hself] at e
      cases e
      exact ⟨h1, h2, ho', upd_same, h'⟩
    · rw [ho j q] at e
      obtain ⟨a, b, ho'', c, d⟩ := R.own j u e
      exact ⟨a, b, ho'', by rw [upd_ne fun z => q (R.inj j i u o e h z)]; exact c, d⟩
  · by_cases q : j = i
    · subst q
      rcases hs with ⟨z, _⟩ | ⟨_, z⟩ | ⟨_, z⟩
      · exact R.nw j o z
      · rw [z] at e
        cases e
      · rw [z] at e
        cases e
    · rw [hne j q] at e
      exact R.nw j u e
  · by_cases q : j = i
    · subst q
      rcases hs with ⟨_, z⟩ | ⟨z, _⟩ | ⟨_, z⟩
      · rw [z] at e
        cases e
      · exact R.iow j o z
      · rw [z] at e
        cases e
    · rw [hne j q] at e
      exact R.iow j u e
  · intro z
    obtain ⟨a, ea⟩ := some_of j u e
    obtain ⟨b, eb⟩ := some_of k u' e'
    exact R.inj j k a b ea eb z
  · obtain ⟨j, u, a1, a2⟩ := R.ioh a e
    by_cases q : j = i
    · subst q
      rcases hs with ⟨z, _⟩ | ⟨_, z⟩ | ⟨z, _⟩
      · rw [z] at a1
        cases a1
      · exact ⟨j, o', z, a2⟩
      · rw [z] at a1
        cases a1
    · exact ⟨j, u, by rw [hne j q]; exact a1, a2⟩
  · by_cases q : j = i
    · subst q
      rcases hs with ⟨_, z⟩ | ⟨_, z⟩ | ⟨z, _⟩
      · rw [z] at e
        cases e
      · rw [z] at e
        cases e
      · exact R.nwh j o z
    · rw [hne j q] at e
      exact R.nwh j u e
  · by_cases q : j = i
    · subst q
      rcases hs with ⟨_, z⟩ | ⟨w, z⟩ | ⟨_, z⟩
      · rw [z] at e
        cases e
      · rw [z] at e
        cases e
        rcases hlx with hlx | hlx
        · exact hlx
        · exact absurd w (hlx _)
      · rw [z] at e
        cases e
    · rw [hne j q] at e
      exact R.iol j u e
  · by_cases q : j = i
    · subst q
      rw [hself] at e
      cases e
      exact ⟨ho', upd_same, (hst b ns rfl).mono (Ex.refl B) fun j' u _ z => ⟨hh j' u z, rfl⟩⟩
    · rw [ho j q] at e
      obtain ⟨hx, c, d⟩ := R.stk j b ns e
      exact ⟨hx, by rw [upd_ne fun z => q (R.inj j i _ o e h z)]; exact c, d.mono (Ex.refl B) fun j' u _ z => ⟨hh j' u z, rfl⟩⟩
/-- a slot is emptied, or keeps what it had -/
theorem Rel.weak (R : Rel K F B ad env σ H) {env' : Env} {σ' : L2.St} (hl : σ'.length = env'.length) (h : ∀ (j : Nat) (s : Slot), env'[j]? = some s → s ≠ .no → env[j]? = some s ∧ σ'[j]? = σ[j]?) (hio : ∀ (j : Nat) (o : O), env[j]? = some (.io o) → env'[j]? = some (.io o))
    (hhid : ∀ (j : Nat) (o : O), env[j]? = some (.hid o) → env'[j]? = some (.hid o) ∨ ∀ i b ns, ownAt env i = some (.stk b ns) → ∀ k, k < ns.length → b + k ≠ j) : Rel K F B ad env' σ' H := by
  have ow : ∀ j o, ownAt env' j = some o → ownAt env j = some o ∧ σ'[j]? = σ[j]? := fun j o e => by
    rcases ownAt_or e with e | e | e
    · obtain ⟨a, b⟩ := h j _ e (by intro z; cases z)
      exact ⟨ownAt_own a, b⟩
    · obtain ⟨a, b⟩ := h j _ e (by intro z; cases z)
      exact ⟨ownAt_io a, b⟩
    · obtain ⟨a, b⟩ := h j _ e (by intro z; cases z)
      exact ⟨ownAt_hid a, b⟩
  refine ⟨R.ex, R.ex0, R.fr, R.kp, hl, fun j d e => ?_, fun j o e => ?_, fun j o e => ?_, fun j o e => ?_, fun j k o o' e e' => ?_, fun a e => ?_, fun j o e => ?_, fun j o e => ?_, fun j b ns e => ?_⟩
  · obtain ⟨a, b⟩ := h j _ e (by intro z; cases z)
    rw [b]
    exact R.imm j d a
  · obtain ⟨a, b⟩ := ow j o e
    rw [b]
    exact R.own j o a
  · exact R.nw j o (h j _ e (by intro z; cases z)).1
  · exact R.iow j o (h j _ e (by intro z; cases z)).1
  · exact R.inj j k o o' (ow j o e).1 (ow k o' e').1
  · obtain ⟨j, o, a1, a2⟩ := R.ioh a e
    exact ⟨j, o, hio j o a1, a2⟩
  · exact R.nwh j o (h j _ e (by intro z; cases z)).1
  · exact R.iol j o (h j _ e (by intro z; cases z)).1
  · obtain ⟨hx, c, d⟩ := R.stk j b ns (ow j _ e).1
    refine ⟨hx, c, d.mono (Ex.refl B) fun j' u hk z => ⟨?_, rfl⟩⟩
    rcases hhid j' u z with q | q
    · exact ⟨u, q⟩
    · obtain ⟨k, hk, rfl⟩ := hk
      exact absurd rfl (q j b ns (ow j _ e).1 k hk)
/-- a slot is written -/
theorem Rel.putI (R : Rel K F B ad env σ H) {i : Nat} {v : V} {d : D} {env' : Env} (h : Rp K B v d) (hp : put1 env i (.imm d) = some env') : Rel K F B ad env' (σ.set i (some v)) H := by
  unfold put1 at hp
  have hi : i < env.length := by
    split at hp
    · rename_i h
      exact (List.getElem?_eq_some_iff.mp h).1
    · cases hp
  have nio : ∀ o, env[i]? ≠ some (.io o) := fun o e => by
    rw [e] at hp
    cases hp
  have nhid : ∀ o, env[i]? ≠ some (.hid o) := fun o e => by
    rw [e] at hp
    cases hp
  have he : env' = env.set i (putR (.imm d)) := by
    split at hp
    · split at hp
      · cases hp
      · exact (Option.some.inj hp).symm
    · cases hp
  subst he
  have hσ : i < σ.length := by rw [R.len]; exact hi
  have hl : (σ.set i (some v)).length = (env.set i (putR (.imm d))).length := by rw [List.length_set, List.length_set]; exact R.len
  have ioh' : ∀ a, F.io = some a → ∃ (j : Nat) (o : O), (env.set i (putR (.imm d)))[j]? = some (.io o) ∧ ad j = a := fun a e => by
    obtain ⟨j, o, a1, a2⟩ := R.ioh a e
    refine ⟨j, o, ?_, a2⟩
    rw [List.getElem?_set_ne fun z => ?_]
    · exact a1
    · subst z
      exact nio o a1
  have other : ∀ j, j ≠ i → (env.set i (putR (.imm d)))[j]? = env[j]? ∧ (σ.set i (some v))[j]? = σ[j]? := fun j q => ⟨List.getElem?_set_ne (Ne.symm q), List.getElem?_set_ne (Ne.symm q)⟩
  have otherO : ∀ j, j ≠ i → ownAt (env.set i (putR (.imm d))) j = ownAt env j := fun j q => ownAt_set_ne (Ne.symm q)
  have self : ∀ o, ownAt (env.set i (putR (.imm d))) i ≠ some o := fun o e => by
    rw [ownAt_set hi] at e
    cases e
  refine ⟨R.ex, R.ex0, R.fr, R.kp, hl, fun j d' e => ?_, fun j o e => ?_, fun j o e => ?_, fun j o e => ?_, fun j k o o' e e' => ?_, ioh', fun j o e => ?_, fun j o e => ?_, fun j b ns e => ?_⟩
  · by_cases q : j = i
    · subst q
      rw [List.getElem?_set_self hi] at e
      cases e
      exact ⟨v, List.getElem?_set_self hσ, h⟩
    · rw [(other j q).1] at e
      rw [(other j q).2]
      exact R.imm j d' e
  · have q : j ≠ i := fun z => by subst z; exact self o e
    rw [otherO j q] at e
    rw [(other j q).2]
    exact R.own j o e
  · have q : j ≠ i := fun z => by subst z; exact self o (ownAt_own e)
    rw [(other j q).1] at e
    exact R.nw j o e
  · have q : j ≠ i := fun z => by subst z; exact self o (ownAt_io e)
    rw [(other j q).1] at e
    exact R.iow j o e
  · have q : j ≠ i := fun z => by subst z; exact self o e
    have q' : k ≠ i := fun z => by subst z; exact self o' e'
    rw [otherO j q] at e
    rw [otherO k q'] at e'
    exact R.inj j k o o' e e'
  · have q : j ≠ i := fun z => by subst z; exact self o (ownAt_hid e)
    rw [(other j q).1] at e
    exact R.nwh j o e
  · have q : j ≠ i := fun z => by subst z; exact self o (ownAt_io e)
    rw [(other j q).1] at e
    exact R.iol j o e
  · have q : j ≠ i := fun z => by subst z; exact self _ e
    rw [otherO j q] at e
    obtain ⟨hx, c, d⟩ := R.stk j b ns e
    exact ⟨hx, c, d.mono (Ex.refl B) fun j' u _ z => ⟨⟨u, by rw [(other j' fun w => nhid u (by rw [← w]; exact z)).1]; exact z⟩, rfl⟩⟩
theorem Rel.putS (R : Rel K F B ad env σ H) {i : Nat} {p : Addr} {ho : HO} {o : O} {s : Slot} (h1 : H p = some ho) (h2 : OOk K B ho o) (h3 : B p = none) (h4 : F.H0 p = none) (h5 : ∀ j o', ownAt env j = some o' → ad j ≠ p)
    (h6 : ∀ b ns, o = .stk b ns → StkT B ad env ho b ns) (hi : i < env.length) (nio : ∀ o, env[i]? ≠ some (.io o)) (nhid : ∀ o, env[i]? ≠ some (.hid o)) (hs : s = .own o ∨ s = .hid o) : Rel K F B (upA ad i p) (env.set i s) (σ.set i (some (.ref p))) H := by
  have hso : s.o = some o := by rcases hs with rfl | rfl <;> rfl
  have hσ : i < σ.length := by rw [R.len]; exact hi
  have hl : (σ.set i (some (.ref p))).length = (env.set i (s)).length := by rw [List.length_set, List.length_set]; exact R.len
  have ioh' : ∀ a, F.io = some a → ∃ (j : Nat) (o : O), (env.set i (s))[j]? = some (.io o) ∧ ad j = a := fun a e => by
    obtain ⟨j, o, a1, a2⟩ := R.ioh a e
    refine ⟨j, o, ?_, a2⟩
    rw [List.getElem?_set_ne fun z => ?_]
    · exact a1
    · subst z
      exact nio o a1
  have other : ∀ j, j ≠ i → (env.set i (s))[j]? = env[j]? ∧ (σ.set i (some (.ref p)))[j]? = σ[j]? := fun j q => ⟨List.getElem?_set_ne (Ne.symm q), List.getElem?_set_ne (Ne.symm q)⟩
  have otherO : ∀ j, j ≠ i → ownAt (env.set i (s)) j = ownAt env j := fun j q => ownAt_set_ne (Ne.symm q)
  have adi : ∀ j, j ≠ i → upA ad i p j = ad j := fun j q => if_neg q
  have ads : upA ad i p i = p := if_pos rfl
  refine ⟨R.ex, R.ex0, R.fr, R.kp, hl, fun j d' e => ?_, fun j o' e => ?_, fun j o' e => ?_, fun j o' e => ?_, fun j k o' o'' e e' => ?_, fun a e => ?_, fun j o' e => ?_, fun j o' e => ?_, fun j b ns e => ?_⟩
  · by_cases q : j = i
    · subst q
      rw [List.getElem?_set_self hi] at e
      rcases hs with rfl | rfl <;> cases e
    · rw [(other j q).1] at e
      rw [(other j q).2]
      exact R.imm j d' e
  · by_cases q : j = i
    · subst q
      rw [ownAt_set hi, hso] at e
      cases e
      rw [ads]
      exact ⟨List.getElem?_set_self hσ, h3, ho, h1, h2⟩
    · rw [otherO j q] at e
      rw [(other j q).2, adi j q]
      exact R.own j o' e
  · by_cases q : j = i
    · subst q
      rw [ads]
      exact h4
    · rw [(other j q).1] at e
      rw [adi j q]
      exact R.nw j o' e
  · by_cases q : j = i
    · subst q
      rw [List.getElem?_set_self hi] at e
      rcases hs with rfl | rfl <;> cases e
    · rw [(other j q).1] at e
      rw [adi j q]
      exact R.iow j o' e
  · intro z
    by_cases q : j = i
    · by_cases q' : k = i
      · rw [q, q']
      · rw [otherO k q'] at e'
        subst q
        rw [ads, adi k q'] at z
        exact absurd z.symm (h5 k o'' e')
    · rw [otherO j q] at e
      by_cases q' : k = i
      · subst q'
        rw [ads, adi j q] at z
        exact absurd z (h5 j o' e)
      · rw [otherO k q'] at e'
        rw [adi j q, adi k q'] at z
        exact R.inj j k o' o'' e e' z
  · obtain ⟨j, o', a1, a2⟩ := ioh' a e
    have q : j ≠ i := fun z => by
      subst z
      rw [List.getElem?_set_self hi] at a1
      rcases hs with rfl | rfl <;> cases a1
    exact ⟨j, o', a1, by rw [adi j q]; exact a2⟩
  · by_cases q : j = i
    · subst q
      rw [ads]
      exact h4
    · rw [(other j q).1] at e
      rw [adi j q]
      exact R.nwh j o' e
  · by_cases q : j = i
    · subst q
      rw [List.getElem?_set_self hi] at e
      rcases hs with rfl | rfl <;> cases e
    · rw [(other j q).1] at e
      exact R.iol j o' e
  · have hh : ∀ (j' : Nat) (u : O), env[j']? = some (.hid u) → (∃ u', (env.set i (s))[j']? = some (.hid u')) ∧ upA ad i p j' = ad j' := fun j' u z => by
      have w : j' ≠ i := fun w => nhid u (by rw [← w]; exact z)
      exact ⟨⟨u, by rw [(other j' w).1]; exact z⟩, adi j' w⟩
    by_cases q : j = i
    · subst q
      rw [ownAt_set hi, hso] at e
      cases e
      rw [ads]
      exact ⟨ho, h1, (h6 b ns rfl).mono (Ex.refl B) fun j' u _ z => hh j' u z⟩
    · rw [otherO j q] at e
      rw [adi j q]
      obtain ⟨hx, c, d⟩ := R.stk j b ns e
      exact ⟨hx, c, d.mono (Ex.refl B) fun j' u _ z => hh j' u z⟩
theorem Rel.putN (R : Rel K F B ad env σ H) {i : Nat} {p : Addr} {ho : HO} {o : O} {env' : Env} (h1 : H p = some ho) (h2 : OOk K B ho o) (h3 : B p = none) (h4 : F.H0 p = none) (h5 : ∀ j o', ownAt env j = some o' → ad j ≠ p)
    (h6 : ∀ b ns, o = .stk b ns → StkT B ad env ho b ns) (hp : put1 env i (.own o) = some env') : Rel K F B (upA ad i p) env' (σ.set i (some (.ref p))) H := by
  unfold put1 at hp
  have hi : i < env.length := by
    split at hp
    · rename_i h
      exact (List.getElem?_eq_some_iff.mp h).1
    · cases hp
  have nio : ∀ o, env[i]? ≠ some (.io o) := fun o e => by
    rw [e] at hp
    cases hp
  have nhid : ∀ o, env[i]? ≠ some (.hid o) := fun o e => by
    rw [e] at hp
    cases hp
  have he : env' = env.set i (.own o) := by
    split at hp
    · split at hp
      · cases hp
      · exact (Option.some.inj hp).symm
    · cases hp
  rw [he]
  exact R.putS h1 h2 h3 h4 h5 h6 hi nio nhid (.inl rfl)
theorem Rel.put (R : Rel K F B ad env σ H) {i : Nat} {v : V} {r : Res} {env' : Env} (h : ROk K F B ad env H v r) (hp : put1 env i r = some env') : ∃ ad', Rel K F B ad' env' (σ.set i (some v)) H := by
  cases h with
  | @imm _ d h => exact ⟨ad, R.putI h hp⟩
  | @own p ho o h1 h2 h3 h4 h5 => exact ⟨_, R.putN h1 h2.toO h3 h4 h5 (fun b ns z => absurd z (IsL_stk h2.ok b ns)) hp⟩
end
end Z
/-! Zs: each construct of the small language does what its evaluator tells. -/
namespace Z
open PySem PySem.Spec PyProof.Rows L2
open Evl (Ex ex_rd ex_l ex_t)
theorem _root_.L2.PE.imp {X : Cx} {e : Expr} {t t' : TE} (h : PE X e t) (k : ∀ σ H Q, t' σ H Q → t σ H Q) : PE X e t' := ⟨fun pins s σ H Q I q => h.run pins s σ H Q I (k σ H Q q)⟩
theorem _root_.L2.PT.imp {X : Cx} {e : Expr} {t t' : TT} (h : PT X e t) (k : ∀ σ H Q, t' σ H Q → t σ H Q) : PT X e t' := ⟨fun pins s σ H Q I q => h.run pins s σ H Q I (k σ H Q q)⟩
theorem _root_.L2.PA.imp {X : Cx} {e : List Expr} {t t' : TA} (h : PA X e t) (k : ∀ σ H Q, t' σ H Q → t σ H Q) : PA X e t' := ⟨fun pos pins s σ H Q I q => h.run pos pins s σ H Q I (k σ H Q q)⟩
theorem _root_.L2.PI.imp {X : Cx} {tg e : Expr} {t t' : TI} (h : PI X tg e t) (k : ∀ σ H Q, t' σ H Q → t σ H Q) : PI X tg e t' := ⟨fun pins s σ H Q I q => h.run pins s σ H Q I (k σ H Q q)⟩
theorem _root_.L2.PI.or {X : Cx} {tg e : Expr} {t t' : TI} (h : PI X tg e t) (h' : PI X tg e t') : PI X tg e (fun σ H Q => t σ H Q ∨ t' σ H Q) := ⟨fun pins s σ H Q I q => q.elim (h.run pins s σ H Q I) (h'.run pins s σ H Q I)⟩
theorem _root_.L2.PS.imp {X : Cx} {st : Stmt} {t t' : TS} (h : PS X st t) (k : ∀ D σ H, t' D σ H → t D σ H) : PS X st t' := ⟨fun pins s σ H D I q => h.run pins s σ H D I (k D σ H q)⟩
theorem _root_.L2.PSs.imp {X : Cx} {st : List Stmt} {t t' : TS} (h : PSs X st t) (k : ∀ D σ H, t' D σ H → t D σ H) : PSs X st t' := ⟨fun pins s σ H D I q => h.run pins s σ H D I (k D σ H q)⟩
/-! ### readings -/
section
variable (K : PySem.W.Frag)
def rE (f : ME) : TE := fun σ H Q => ∃ F B ad env r env', Rel K F B ad env σ H ∧ f env = some (r, env') ∧ ∀ v B' H', Ex B B' → Rel K F B' ad env' σ H' → ROk K F B' ad env' H' v r → Q v H'
def rV (f : ME) : TE := fun σ H Q => ∃ F B ad env d env', Rel K F B ad env σ H ∧ fz (f env) = some (d, env') ∧ ∀ v B' H', Ex B B' → Rel K F B' ad env' σ H' → Rp K B' v d → Q v H'
def rT (f : MT) : TT := fun σ H Q => ∃ F B ad env b env', Rel K F B ad env σ H ∧ f env = some (b, env') ∧ ∀ B' H', Ex B B' → Rel K F B' ad env' σ H' → Q b H'
def rA (f : MEs) : TA := fun σ H Q => ∃ F B ad env ds env', Rel K F B ad env σ H ∧ f env = some (ds, env') ∧ ∀ vs B' H', Ex B B' → Rel K F B' ad env' σ H' → RpAll K B' vs ds → Q vs H'
def rP (f : MP) : TO := fun σ H Q => ∃ F B ad env o env', Rel K F B ad env σ H ∧ f env = some (o, env') ∧ ∀ B' H', Ex B B' → Rel K F B' ad env' σ H' → Q o H'
/-- what an iterable gives: the data ds, one at a turn -/
def ItOk (B : Hp) (J : It) (ds : List D) : Prop := ∃ (G : Hp → Prop) (Y : Nat → Hp → V → Hp → Prop), Walk J ds.length G Y ∧ (∀ H, Ex B H → G H) ∧
  ∀ i H v H', i < ds.length → Ex B H → Y i H v H' → ∃ d, ds[i]? = some d ∧ ((H' = H ∧ Rp K B v d) ∨ ∃ T xs es, v = .ref T ∧ H T = none ∧ H' = upd H T (.tup xs) ∧ d = .tuple es ∧ RpAll K B xs es)
def rIt (f : MEs) : TI := fun σ H R => ∃ F B ad env ds env', Rel K F B ad env σ H ∧ f env = some (ds, env') ∧ ∀ J B' H', Ex B B' → Rel K F B' ad env' σ H' → ItOk K B' J ds → R J H'
def rS (f : MS) : TS := fun D σ H => ∃ F B ad env fl env', Rel K F B ad env σ H ∧ f env = some (fl, env') ∧ ∀ B' ad' σ' H', Ex B B' → Rel K F B' ad' env' σ' H' → match fl with
  | .next => D.nx σ' H'
  | .brk => D.bk σ' H'
  | .cont => D.ct σ' H'
  | .ret r => ∀ v, ROk K F B' ad' env' H' v r → D.rt v H'
end
section
variable {K : PySem.W.Frag} {X : Cx} {σ : L2.St} {H : Hp}
theorem fz_some {x : Option (Res × Env)} {d : D} {env : Env} (h : fz x = some (d, env)) : ∃ r, x = some (r, env) ∧ r.d = d := by
  cases x with
  | none => cases h
  | some p =>
    obtain ⟨r, e⟩ := p
    cases h
    exact ⟨r, rfl, rfl⟩
theorem rV_rE {f : ME} {Q : VK} (h : rV K f σ H Q) : rE K f σ H Q := by
  obtain ⟨F, B, ad, env, d, env', R, e, k⟩ := h
  obtain ⟨r, e1, rfl⟩ := fz_some e
  refine ⟨F, B, ad, env, r, env', R, e1, fun v B' H' x R' ok => ?_⟩
  obtain ⟨B2, x2, R2, hd⟩ := ok.fz R'
  exact k v B2 H' (x.trans x2) R2 hd
theorem _root_.L2.PE.v {e : Expr} {f : ME} (h : PE X e (rE K f)) : PE X e (rV K f) := h.imp fun _ _ _ => rV_rE
/-- an operation over two operands -/
theorem two {f a b : ME} {Q : VK} {G : D → D → Res → Prop} {T : V → V → Hp → Prop} (h : rE K f σ H Q)
    (hf : ∀ env r env', f env = some (r, env') → ∃ x env1 y, fz (a env) = some (x, env1) ∧ fz (b env1) = some (y, env') ∧ G x y r)
    (k : ∀ F B ad env' v u x y r H2, Rel K F B ad env' σ H2 → Rp K B v x → Rp K B u y → G x y r → (∀ w B' H', Ex B B' → Rel K F B' ad env' σ H' → ROk K F B' ad env' H' w r → Q w H') → T v u H2) :
    rV K a σ H fun v H1 => rV K b σ H1 fun u H2 => T v u H2 := by
  obtain ⟨F, B, ad, env, r, env', R, e, q⟩ := h
  obtain ⟨x, env1, y, e1, e2, g⟩ := hf env r env' e
  refine ⟨F, B, ad, env, x, env1, R, e1, fun v B1 H1 x1 R1 d1 => ⟨F, B1, ad, env1, y, env', R1, e2, fun u B2 H2 x2 R2 d2 => ?_⟩⟩
  exact k F B2 ad env' v u x y r H2 R2 (dpM x2 _ d1) d2 g fun w B' H' x' R' ok => q w B' H' ((x1.trans x2).trans x') R' ok
theorem one {f a : ME} {Q : VK} {G : D → Res → Prop} {T : V → Hp → Prop} (h : rE K f σ H Q)
    (hf : ∀ env r env', f env = some (r, env') → ∃ x, fz (a env) = some (x, env') ∧ G x r)
    (k : ∀ F B ad env' v x r H2, Rel K F B ad env' σ H2 → Rp K B v x → G x r → (∀ w B' H', Ex B B' → Rel K F B' ad env' σ H' → ROk K F B' ad env' H' w r → Q w H') → T v H2) :
    rV K a σ H fun v H1 => T v H1 := by
  obtain ⟨F, B, ad, env, r, env', R, e, q⟩ := h
  obtain ⟨x, e1, g⟩ := hf env r env' e
  refine ⟨F, B, ad, env, x, env', R, e1, fun v B1 H1 x1 R1 d1 => ?_⟩
  exact k F B1 ad env' v x r H1 R1 d1 g fun w B' H' x' R' ok => q w B' H' (x1.trans x') R' ok
/-- over arguments -/
theorem args {f : ME} {es : MEs} {Q : VK} {G : List D → Res → Prop} {T : List V → Hp → Prop} (h : rE K f σ H Q)
    (hf : ∀ env r env', f env = some (r, env') → ∃ ds, es env = some (ds, env') ∧ G ds r)
    (k : ∀ F B ad env' vs ds r H2, Rel K F B ad env' σ H2 → RpAll K B vs ds → G ds r → (∀ w B' H', Ex B B' → Rel K F B' ad env' σ H' → ROk K F B' ad env' H' w r → Q w H') → T vs H2) :
    rA K es σ H fun vs H1 => T vs H1 := by
  obtain ⟨F, B, ad, env, r, env', R, e, q⟩ := h
  obtain ⟨ds, e1, g⟩ := hf env r env' e
  refine ⟨F, B, ad, env, ds, env', R, e1, fun vs B1 H1 x1 R1 d1 => ?_⟩
  exact k F B1 ad env' vs ds r H1 R1 d1 g fun w B' H' x' R' ok => q w B' H' (x1.trans x') R' ok
/-! ### new lists, new tuples -/
section
variable {F : Fx} {B : Hp} {ad : Nat → Addr} {env : Env}
theorem newL (R : Rel K F B ad env σ H) {p : Addr} {vs : List V} {ds : List D} (hp : H p = none) (h : RpAll K B vs ds) : Rel K F B ad env σ (upd H p (.lst vs)) ∧ ROk K F B ad env (upd H p (.lst vs)) (.ref p) (.own (.lst ds)) :=
  ⟨R.alloc hp _, .own upd_same (.lst h) (R.noB hp) (R.fresh hp) fun j o g => R.ne hp g⟩
theorem newT (R : Rel K F B ad env σ H) {p : Addr} {vs : List V} {ds : List D} (hp : H p = none) (h : RpAll K B vs ds) : ∃ B', Ex B B' ∧ Rel K F B' ad env σ (upd H p (.tup vs)) ∧ ROk K F B' ad env (upd H p (.tup vs)) (.ref p) (.imm (.tuple ds)) := by
  obtain ⟨R', x⟩ := R.grow hp (.tup vs)
  exact ⟨_, x, R', .imm (.tup (SqT.of upd_same) (dpAM x _ h))⟩
end
theorem dp_int {B : Hp} {v : V} {i : Int} (h : Rp K B v (.int i)) : v = .int i := by cases h; rfl
theorem dp_bool {B : Hp} {v : V} {i : Bool} (h : Rp K B v (.bool i)) : v = .bl i := by cases h; rfl
theorem dp_str {B : Hp} {v : V} {i : Str} (h : Rp K B v (.str i)) : v = .str i := by cases h; rfl
theorem dp_none {B : Hp} {v : V} (h : Rp K B v .none) : v = .non := by cases h; rfl
theorem dp_list {B : Hp} {v : V} {ds : List D} (h : Rp K B v (.list ds)) : ∃ a xs, v = .ref a ∧ B a = some (.lst xs) ∧ RpAll K B xs ds := by
  cases h with
  | lst a b => exact ⟨_, _, rfl, a, b⟩
theorem dp_tuple {B : Hp} {v : V} {ds : List D} (h : Rp K B v (.tuple ds)) : ∃ a xs, v = .ref a ∧ SqT K B a xs ∧ RpAll K B xs ds := by
  cases h with
  | tup a b => exact ⟨_, _, rfl, a, b⟩
theorem dp_scr {B : Hp} {v : V} {ds : List D} (h : Rp K B v (.dict [(.none, .list ds)])) : ∃ (a : Addr) (ns : List Int), v = .ref a ∧ SqL K B a (ns.map V.int) ∧ ds = ns.map PyData.int := by
  generalize hk : PyData.dict [(.none, .list ds)] = d at h
  cases h with
  | scr hs =>
    unfold scrD at hk
    injection hk with hk
    injection hk with hk
    injection hk with _ hk
    injection hk with hk
    exact ⟨_, _, rfl, hs, hk⟩
  | _ => cases hk
theorem p62 : (2 : Int) ^ 62 = 4611686018427387904 := by rfl
theorem p63 : (2 : Int) ^ 63 = 9223372036854775808 := by rfl
/-! ### operators -/
def opOf : Op2 → Operator
  | .add => .Add | .sub => .Sub | .mul => .Mult | .fdiv => .FloorDiv | .mod => .Mod | .pow => .Pow
  | .shl => .LShift | .shr => .RShift | .band => .BitAnd | .bxor => .BitXor | .bor => .BitOr
theorem cOp_some {o : Op2} {a b : ME} {env env' : Env} {r : Res} (h : cOp o a b env = some (r, env')) : ∃ x env1 y, fz (a env) = some (x, env1) ∧ fz (b env1) = some (y, env') ∧ opD o x y = some r := by
  unfold cOp at h
  (try unfold IF at h); split at h
  · cases h
  · rename_i x env1 e1
    (try unfold IF at h); split at h
    · cases h
    · rename_i y env2 e2
      (try unfold IF at h); split at h
      · cases h
      · rename_i r' e3
        cases h
        exact ⟨x, env1, y, e1, e2, e3⟩
theorem s_op1 {o : Op2} {r : R2} {ea eb : Expr} {a b : ME} {pos : Pos} (hr : OpR X (binaryOp (opOf o)) r) (ha : PE X ea (rE X.K a)) (hb : PE X eb (rE X.K b))
    (k : ∀ (σ : L2.St) (F : Fx) B ad env' v u x y res H2 Q, Rel X.K F B ad env' σ H2 → Rp X.K B v x → Rp X.K B u y → opD o x y = some res → (∀ w B' H', Ex B B' → Rel X.K F B' ad env' σ H' → ROk X.K F B' ad env' H' w res → Q w H') → r v u H2 Q) :
    PE X (.BinOp ea (opOf o) eb pos) (rE X.K (cOp o a b)) :=
  (pe_op hr ha.v hb.v).imp fun σ H Q h => two (G := fun x y r => opD o x y = some r) h (fun env r env' e => cOp_some e) fun F B ad env' v u x y res H2 R d1 d2 e q => k σ F B ad env' v u x y res H2 Q R d1 d2 e q
theorem op_mulAny : OpR X (binaryOp .Mult) (fun x y H Q => ∃ i j, x = .int i ∧ y = .int j ∧ mulOk i j = true ∧ Q (.int (i * j)) H) := by
  intro pins s σ H x y v u Q I rx ry h
  obtain ⟨i, j, rfl, rfl, c, q⟩ := h
  unfold mulOk at c
  simp only [Bool.or_eq_true, decide_eq_true_eq] at c
  rcases c with (c | c) | c
  · exact op_mul pins s σ H _ _ v u Q I rx ry ⟨i, j, rfl, rfl, .inl ⟨by omega, by omega⟩, q⟩
  · exact op_mul pins s σ H _ _ v u Q I rx ry ⟨i, j, rfl, rfl, .inr ⟨by omega, by omega⟩, q⟩
  · exact op_mulW pins s σ H _ _ v u Q I rx ry ⟨i, j, rfl, rfl, c, q⟩
theorem s_int {o : Op2} {C : Int → Int → Prop} {f : Int → Int → Int} {ea eb : Expr} {a b : ME} {pos : Pos} (hd : opD o = intD C f) (hr : OpR X (binaryOp (opOf o)) (rI C fun i j => .int (f i j))) (ha : PE X ea (rE X.K a)) (hb : PE X eb (rE X.K b)) :
    PE X (.BinOp ea (opOf o) eb pos) (rE X.K (cOp o a b)) := by
  refine s_op1 hr ha hb fun σ F B ad env' v u x y res H2 Q R d1 d2 e q => ?_
  rw [hd] at e
  unfold intD at e
  (try unfold IF at e); split at e
  · (try unfold IF at e); split at e
    · rename_i hz
      cases e
      exact ⟨_, _, dp_int d1, dp_int d2, hz, q _ B _ (Ex.refl B) R (.imm (.int _))⟩
    · cases e
  · cases e
theorem s_op (o : Op2) {ea eb : Expr} {a b : ME} {pos : Pos} (ha : PE X ea (rE X.K a)) (hb : PE X eb (rE X.K b)) : PE X (.BinOp ea (opOf o) eb pos) (rE X.K (cOp o a b)) := by
  have i0 : ∀ {o : Operator} {g : Int → Int → Int}, OpR X (binaryOp o) (rI0 fun i j => .int (g i j)) → OpR X (binaryOp o) (rI (fun _ _ => True) fun i j => .int (g i j)) := fun h pins s σ H x y v u Q I rx ry ⟨i, j, a, b, _, q⟩ => h pins s σ H x y v u Q I rx ry ⟨i, j, a, b, q⟩
  cases o with
  | add =>
    refine s_op1 (o := .add) (((op_add.or op_add_str).or op_cat).or op_catA) ha hb fun σ F B ad env' v u x y res H2 Q R d1 d2 e q => ?_
    change addD x y = some res at e
    unfold addD at e
    (try unfold IF at e); split at e
    · cases e
      exact .inl (.inl (.inl ⟨_, _, dp_int d1, dp_int d2, q _ B _ (Ex.refl B) R (.imm (.int _))⟩))
    · (try unfold IF at e); split at e
      · cases e
        exact .inl (.inl (.inr ⟨_, _, dp_str d1, dp_str d2, by assumption, q _ B _ (Ex.refl B) R (.imm (.str _))⟩))
      · cases e
    · (try unfold IF at e); split at e
      · rename_i hz
        cases e
        obtain ⟨l, xs, e1, h1, r1⟩ := dp_list d1
        obtain ⟨m, ys, e2, h2, r2⟩ := dp_list d2
        refine .inl (.inr ⟨l, m, xs, ys, e1, e2, R.ex _ _ h1, R.ex _ _ h2, by rw [dpA_len r1, dpA_len r2]; exact hz, fun p hp => ?_⟩)
        obtain ⟨R', ok⟩ := newL R hp (dpA_app r1 r2)
        exact q _ B _ (Ex.refl B) R' ok
      · cases e
    · (try unfold IF at e); split at e
      · rename_i hz
        cases e
        obtain ⟨l, xs, e1, h1, r1⟩ := dp_tuple d1
        obtain ⟨m, ys, e2, h2, r2⟩ := dp_tuple d2
        refine .inr ⟨l, m, xs, ys, e1, e2, ex_t R.ex h1, ex_t R.ex h2, by rw [dpA_len r1, dpA_len r2]; exact hz, fun z => ?_, fun _ z => ?_, fun _ _ p hp => ?_⟩
        · subst z
          cases r1
          rw [List.nil_append] at q
          rw [← e2]
          exact q _ B _ (Ex.refl B) R (.imm d2)
        · subst z
          cases r2
          rw [List.append_nil] at q
          rw [← e1]
          exact q _ B _ (Ex.refl B) R (.imm d1)
        · obtain ⟨B', x, R', ok⟩ := newT R hp (dpA_app r1 r2)
          exact q _ B' _ x R' ok
      · cases e
    · cases e
  | sub => exact s_int (o := .sub) rfl (i0 op_sub) ha hb
  | mul =>
    refine s_op1 (o := .mul) (op_mulAny.or op_rep) ha hb fun σ F B ad env' v u x y res H2 Q R d1 d2 e q => ?_
    change mulD x y = some res at e
    unfold mulD at e
    (try unfold IF at e); split at e
    · (try unfold IF at e); split at e
      · cases e
        exact .inl ⟨_, _, dp_int d1, dp_int d2, by assumption, q _ B _ (Ex.refl B) R (.imm (.int _))⟩
      · cases e
    · (try unfold IF at e); split at e
      · rename_i hz
        cases e
        obtain ⟨l, xs, e1, h1, r1⟩ := dp_list d1
        refine .inr ⟨l, _, xs, e1, dp_int d2, R.ex _ _ h1, by rw [p63]; exact hz.2.1, by rw [p63]; exact hz.1, by rw [dpA_len r1]; exact hz.2.2, fun p hp => ?_⟩
        obtain ⟨R', ok⟩ := newL R hp (dpA_rep r1 _)
        exact q _ B _ (Ex.refl B) R' ok
      · cases e
    · cases e
  | fdiv => exact s_int (o := .fdiv) rfl op_fdivN ha hb
  | mod => exact s_int (o := .mod) rfl op_modN ha hb
  | pow => exact s_int (o := .pow) rfl op_pow ha hb
  | shl => exact s_int (o := .shl) rfl op_shl ha hb
  | shr => exact s_int (o := .shr) rfl op_shr ha hb
  | band => exact s_int (o := .band) rfl (i0 op_and) ha hb
  | bxor => exact s_int (o := .bxor) rfl (i0 op_xor) ha hb
  | bor => exact s_int (o := .bor) rfl (i0 op_or) ha hb
end
end Z
/-! Zt: comparisons, tests, names, displays, calls, subscripts. -/
namespace Z
open PySem PySem.Spec PyProof.Rows L2
open Evl (Ex ex_rd ex_l ex_t)
/-! ### expressions that are no star, no slice, no set, no comprehension -/
def ordB : Expr → Bool
  | .Starred .. | .Slice .. | .Set .. => false
  | .Call (.Name id _) [] [] _ => id != "super"
  | _ => true
def cmpB : Expr → Bool
  | .ListComp .. | .SetComp .. | .DictComp .. => true
  | _ => false
section
variable {e : Expr} {env : PySem.Env}
theorem ord_star (h : ordB e = true) (es : List Expr) : starEach (e :: es) env = (false, eval e env) :: starEach es env := by
  cases e <;> first | rfl | cases h
theorem ord_mark (h : ordB e = true) (op : CmpOp) : behindInMarks op e = false := by
  cases e <;> first | rfl | cases h
theorem ord_fold (h : ordB e = true) (x : Value) : foldedSetIterable e env x = pure x := by
  cases e <;> first | rfl | cases h
theorem ord_ix (h : ordB e = true) : PlainIx e := by
  intro o i
  cases e <;> first | rfl | cases h
theorem ord_ixT (h : ordB e = true) : PlainIxT e := by
  intro o i
  cases e <;> first | rfl | cases h
theorem ord_sw (h : cmpB e = false) (t : Option Expr) (l : Nat) : swapsWith e t l env = pure false := by
  cases e <;> first | rfl | cases h
theorem ord_att (h : ordB e = true) (f : Str) : attributeBase e f env (eval e env) = eval e env := by
  unfold attributeBase
  split
  · rename_i id p pos
    have h' : (id != ("super" : Str)) = true := h
    rw [h', Bool.true_or, Bool.true_or, Bool.true_or]
    rfl
  · rfl
end
section
variable {K : PySem.W.Frag} {X : Cx} {σ : L2.St} {H : Hp}
/-! ### comparisons -/
def cmOf : Cm → CmpOp
  | .eq => .Eq | .ne => .NotEq | .lt => .Lt | .le => .LtE | .gt => .Gt | .ge => .GtE | .in_ => .In | .nin => .NotIn | .is => .Is | .isn => .IsNot
theorem cCmp_some {o : Cm} {a b : ME} {env env' : Env} {r : Res} (h : cCmp o a b env = some (r, env')) : ∃ x env1 y, fz (a env) = some (x, env1) ∧ fz (b env1) = some (y, env') ∧ ∃ k, cmpD o x y = some k ∧ r = .imm (.bool k) := by
  unfold cCmp at h
  (try unfold IF at h); split at h
  · cases h
  · rename_i x env1 e1
    (try unfold IF at h); split at h
    · cases h
    · rename_i y env2 e2
      (try unfold IF at h); split at h
      · cases h
      · rename_i r' e3
        cases h
        exact ⟨x, env1, y, e1, e2, r', e3, rfl⟩
/-- a value that is a bool, as a test -/
theorem rT_rE {f : ME} {Q : Bool → Hp → Prop} (hf : ∀ env r env', f env = some (r, env') → ∃ k, r = .imm (.bool k)) (h : rT K (tE f) σ H Q) : rE K f σ H fun x H' => ∃ k, x = .bl k ∧ Q k H' := by
  obtain ⟨F, B, ad, env, b, env', R, e, q⟩ := h
  unfold tE at e
  (try unfold IF at e); split at e
  · cases e
  · rename_i d env1 e1
    (try unfold IF at e); split at e
    · rename_i k e2
      cases e
      obtain ⟨r, e3, e4⟩ := fz_some e1
      obtain ⟨k', rfl⟩ := hf _ _ _ e3
      subst e4
      cases e2
      refine ⟨F, B, ad, env, _, env', R, e3, fun v B' H' x R' ok => ?_⟩
      cases ok with
      | imm ok => exact ⟨_, dp_bool ok, q B' H' x R'⟩
    · cases e
theorem s_cmp1 {o : Cm} {r : R2} {ea eb : Expr} {a b : ME} {pos : Pos} (hm : ∀ op, behindInMarks op eb = false) (hr : OpR X (compareOp (cmOf o)) r) (ha : PE X ea (rE X.K a)) (hb : PE X eb (rE X.K b))
    (k : ∀ (B : Hp) (v u : V) x y res H2 Q, Ex B H2 → Rp X.K B v x → Rp X.K B u y → cmpD o x y = some res → Q (.bl res) H2 → r v u H2 Q) :
    PE X (.Compare ea [cmOf o] [eb] pos) (rE X.K (cCmp o a b)) ∧ PT X (.Compare ea [cmOf o] [eb] pos) (rT X.K (tE (cCmp o a b))) := by
  have key : ∀ (σ : L2.St) (H : Hp) (Q : VK), rE X.K (cCmp o a b) σ H Q → tOp r (rV X.K a) (rV X.K b) σ H Q := fun σ H Q h =>
    two (G := fun x y r => ∃ k, cmpD o x y = some k ∧ r = .imm (.bool k)) h (fun env r env' e => cCmp_some e) fun F B ad env' v u x y res H2 R d1 d2 e q => by
      obtain ⟨kk, e1, rfl⟩ := e
      exact k B v u x y kk H2 Q R.ex d1 d2 e1 (q _ B _ (Ex.refl B) R (.imm (.bl _)))
  refine ⟨(pe_cmpR hr ha.v hb.v (hm _)).imp key, (pt_cmpR hr ha.v hb.v (hm _)).imp fun σ H Q h => key σ H _ (rT_rE (fun env r env' e => ?_) h)⟩
  obtain ⟨_, _, _, _, _, kk, _, e⟩ := cCmp_some e
  exact ⟨kk, e⟩
theorem flat_dp {B : Hp} {v : V} {d : D} (h : Rp K B v d) (f : flatD d = true) : flatV v = true := by
  cases h <;> first | rfl | cases f
theorem flats_dp {B : Hp} : ∀ {ds : List D} {vs : List V}, RpAll K B vs ds → ds.all flatD = true → vs.all flatV = true
  | [], _, h, _ => by cases h; rfl
  | d :: ds, _, h, f => by
    cases h with
    | cons h1 h2 =>
      rw [List.all_cons, Bool.and_eq_true] at f
      rw [List.all_cons, flat_dp h1 f.1, flats_dp h2 f.2]
      rfl
theorem eqV_dp {B : Hp} {v u : V} {d e : D} (h : Rp K B v d) (h' : Rp K B u e) (f : flatD d = true) (f' : flatD e = true) : eqV v u = PyData.eqv d e := by
  cases h <;> cases h' <;> first | rfl | (cases f; done) | (cases f'; done)
theorem inV_dp {B : Hp} {v : V} {d : D} (h : Rp K B v d) (f : flatD d = true) : ∀ {ds : List D} {vs : List V}, RpAll K B vs ds → ds.all flatD = true → inV v vs = inD d ds
  | [], _, g, _ => by cases g; rfl
  | e :: ds, _, g, f' => by
    cases g with
    | cons h1 h2 =>
      rw [List.all_cons, Bool.and_eq_true] at f'
      have ih := inV_dp h f h2 f'.2
      unfold inV inD at ih ⊢
      rw [List.any_cons, List.any_cons, ih, eqV_dp h1 h f'.1 f]
theorem s_ord {o : Cm} {g : Int → Int → Bool} {ea eb : Expr} {a b : ME} {pos : Pos} (hd : ∀ x y, cmpD o x y = ordD g x y) (hm : ∀ op, behindInMarks op eb = false) (hr : OpR X (compareOp (cmOf o)) (rI0 fun i j => .bl (g i j))) (ha : PE X ea (rE X.K a)) (hb : PE X eb (rE X.K b)) :
    PE X (.Compare ea [cmOf o] [eb] pos) (rE X.K (cCmp o a b)) ∧ PT X (.Compare ea [cmOf o] [eb] pos) (rT X.K (tE (cCmp o a b))) :=
  s_cmp1 hm hr ha hb fun B v u x y res H2 Q ex d1 d2 e q => by
    rw [hd] at e
    unfold ordD at e
    (try unfold IF at e); split at e
    · cases e
      exact ⟨_, _, dp_int d1, dp_int d2, q⟩
    · cases e
noncomputable def inC (x : D) : D → Option Bool
  | .list ys => IF (flatD x && ys.all flatD) (some (inD x ys))
  | .tuple ys => IF (flatD x && ys.all flatD) (some (inD x ys))
  | _ => none
theorem s_in {B : Hp} {v u : V} {x y : D} {k neg : Bool} {H2 : Hp} {Q : VK} (ex : Ex B H2) (d1 : Rp X.K B v x) (d2 : Rp X.K B u y) (e : inC x y = some k) (q : Q (.bl (if neg then !k else k)) H2) : rIn X.K neg v u H2 Q := by
  unfold inC at e
  (try unfold IF at e); split at e
  · (try unfold IF at e); split at e
    · rename_i hf
      cases e
      rw [Bool.and_eq_true] at hf
      obtain ⟨a, xs, e1, h1, r1⟩ := dp_list d2
      exact ⟨a, xs, e1, .inl (SqL.of (ex _ _ h1)), flat_dp d1 hf.1, flats_dp r1 hf.2, by rw [inV_dp d1 hf.1 r1 hf.2]; exact q⟩
    · cases e
  · (try unfold IF at e); split at e
    · rename_i hf
      cases e
      rw [Bool.and_eq_true] at hf
      obtain ⟨a, xs, e1, h1, r1⟩ := dp_tuple d2
      exact ⟨a, xs, e1, .inr (ex_t ex h1), flat_dp d1 hf.1, flats_dp r1 hf.2, by rw [inV_dp d1 hf.1 r1 hf.2]; exact q⟩
    · cases e
  · cases e
theorem op_isIB : OpR X (compareOp .Is) (fun x y H Q => ∃ (i : Int) (b : Bool), x = .int i ∧ y = .bl b ∧ Q (.bl false) H) := by
  intro pins s σ H x y v u Q I rx ry h
  obtain ⟨i, b, rfl, rfl, q⟩ := h
  obtain ⟨t, rfl⟩ := rx
  cases (show u = Value.bool b from ry)
  exact wpAny_is_other rfl (fun z => nomatch z) ⟨.bl false, H, I, rfl, q⟩
theorem dp_int' {H : Hp} {v : V} {i : Int} (h : Rp X.K H v (.int i)) : v = .int i := by
  cases h
  rfl
theorem s_cmp (o : Cm) {ea eb : Expr} {a b : ME} {pos : Pos} (hu : X.A.units + 64 < cLine) (hm : ∀ op, behindInMarks op eb = false) (ha : PE X ea (rE X.K a)) (hb : PE X eb (rE X.K b)) :
    PE X (.Compare ea [cmOf o] [eb] pos) (rE X.K (cCmp o a b)) ∧ PT X (.Compare ea [cmOf o] [eb] pos) (rT X.K (tE (cCmp o a b))) := by
  have sh : ∀ {B H2 : Hp} {v : V} {d : D}, Ex B H2 → Rp X.K B v d → SeqAt.shaped d = true → Dp X.K H2 v d := fun ex h s => (dpM ex _ h).dp _ (SeqAt.canLay_of_shaped s)
  cases o with
  | eq =>
    refine s_cmp1 (o := .eq) hm (op_eqD hu) ha hb fun B v u x y res H2 Q ex d1 d2 e q => ?_
    change (IF (SeqAt.shaped x && SeqAt.shaped y) (some (PyData.eqv x y))) = some res at e
    (try unfold IF at e); split at e
    · rename_i hs
      cases e
      rw [Bool.and_eq_true] at hs
      exact ⟨x, y, sh ex d1 hs.1, sh ex d2 hs.2, hs.1, hs.2, q⟩
    · cases e
  | ne =>
    refine s_cmp1 (o := .ne) hm (op_neD hu) ha hb fun B v u x y res H2 Q ex d1 d2 e q => ?_
    change (IF (SeqAt.shaped x && SeqAt.shaped y) (some (!PyData.eqv x y))) = some res at e
    (try unfold IF at e); split at e
    · rename_i hs
      cases e
      rw [Bool.and_eq_true] at hs
      exact ⟨x, y, sh ex d1 hs.1, sh ex d2 hs.2, hs.1, hs.2, q⟩
    · cases e
  | lt => exact s_ord (o := .lt) (fun _ _ => rfl) hm op_lt ha hb
  | le => exact s_ord (o := .le) (fun _ _ => rfl) hm op_le ha hb
  | gt => exact s_ord (o := .gt) (fun _ _ => rfl) hm op_gt ha hb
  | ge => exact s_ord (o := .ge) (fun _ _ => rfl) hm op_ge ha hb
  | in_ =>
    refine s_cmp1 (o := .in_) hm (op_in_seq.or op_in_str) ha hb fun B v u x y res H2 Q ex d1 d2 e q => ?_
    have go : ∀ (e' : inC x y = some res), rIn X.K false v u H2 Q := fun e' => s_in ex d1 d2 e' q
    cases y with
    | list ys => exact .inl (go (by rw [← e]; rfl))
    | tuple ys => exact .inl (go (by rw [← e]; rfl))
    | str b =>
      cases x with
      | str a =>
        cases e
        exact .inr ⟨a, b, dp_str d1, dp_str d2, q⟩
      | _ => cases e
    | _ => cases x <;> cases e
  | nin =>
    refine s_cmp1 (o := .nin) hm op_notIn_seq ha hb fun B v u x y res H2 Q ex d1 d2 e q => ?_
    have e' : inC x y = some (!res) := by
      cases y with
      | list ys =>
        change (IF (flatD x && ys.all flatD) (some (!inD x ys))) = some res at e
        show (IF (flatD x && ys.all flatD) (some (inD x ys))) = some (!res)
        (try unfold IF at e); split at e
        · rename_i hs
          rw [IFP hs]
          cases e
          rw [Bool.not_not]
        · cases e
      | tuple ys =>
        change (IF (flatD x && ys.all flatD) (some (!inD x ys))) = some res at e
        show (IF (flatD x && ys.all flatD) (some (inD x ys))) = some (!res)
        (try unfold IF at e); split at e
        · rename_i hs
          rw [IFP hs]
          cases e
          rw [Bool.not_not]
        · cases e
      | _ => cases e
    exact s_in ex d1 d2 e' (by simpa using q)
  | is =>
    refine s_cmp1 (o := .is) hm ((op_isN.or op_isBl).or op_isIB) ha hb fun B v u x y res H2 Q ex d1 d2 e q => ?_
    cases y with
    | none =>
      refine .inl (.inl ⟨dp_none d2, ?_⟩)
      cases x with
      | none =>
        cases e
        rw [dp_none d1]
        exact q
      | bool b =>
        cases e
        rw [dp_bool d1]
        exact q
      | dict kv => cases e
      | _ =>
        cases e
        have : v ≠ .non := fun z => by subst z; cases d1
        rw [decide_eq_false this]
        exact q
    | bool b =>
      cases x with
      | bool a =>
        cases e
        exact .inl (.inr ⟨a, b, dp_bool d1, dp_bool d2, q⟩)
      | int i =>
        cases e
        exact .inr ⟨i, b, dp_int' d1, dp_bool d2, q⟩
      | _ => cases e
    | _ => cases x <;> cases e
  | isn =>
    refine s_cmp1 (o := .isn) hm (op_notN.or op_notBl) ha hb fun B v u x y res H2 Q ex d1 d2 e q => ?_
    cases y with
    | bool b =>
      cases x with
      | bool a =>
        cases e
        exact .inr ⟨a, b, dp_bool d1, dp_bool d2, q⟩
      | _ => cases e
    | none =>
      refine .inl ⟨dp_none d2, ?_⟩
      cases x with
      | none =>
        cases e
        rw [dp_none d1]
        exact q
      | bool b =>
        cases e
        rw [dp_bool d1]
        exact q
      | dict kv => cases e
      | _ =>
        cases e
        have : v ≠ .non := fun z => by subst z; cases d1
        rw [decide_eq_false this]
        exact q
    | _ => cases x <;> cases e
end
end Z
/-! Zu: names, tests, displays, built-ins, subscripts, slices, methods. -/
namespace Z
open PySem PySem.Spec PyProof.Rows L2
open Evl (Ex ex_rd ex_l ex_t)
theorem fz_of {x : Option (Res × Env)} {r : Res} {env : Env} (h : x = some (r, env)) : fz x = some (r.d, env) := by
  rw [h]
  rfl
theorem ords_plain {pos : Pos} {env : PySem.Env} : ∀ {es : List Expr}, es.all ordB = true → (backTo pos (starEach es env)).any (·.1) = false
  | [], _ => rfl
  | e :: es, h => by
    rw [List.all_cons, Bool.and_eq_true] at h
    rw [ord_star h.1]
    unfold backTo
    rw [List.map_cons, List.any_cons]
    have ih := ords_plain (pos := pos) (env := env) h.2
    unfold backTo at ih
    rw [ih]
    rfl
theorem ords_few {pos : Pos} {env : PySem.Env} : ∀ {es : List Expr}, es.all ordB = true → (backTo pos (starEach es env)).all (fun x => !x.1) = true
  | [], _ => rfl
  | e :: es, h => by
    rw [List.all_cons, Bool.and_eq_true] at h
    rw [ord_star h.1]
    unfold backTo
    rw [List.map_cons, List.all_cons]
    have ih := ords_few (pos := pos) (env := env) h.2
    unfold backTo at ih
    rw [ih]
    rfl
section
variable {K : PySem.W.Frag} {X : Cx} {σ : L2.St} {H : Hp}
/-! ### names, constants -/
theorem var_imp {i : Nat} {Q : VK} (h : rE K (cV i) σ H Q) : tVar i σ H Q := by
  obtain ⟨F, B, ad, env, r, env', R, e, q⟩ := h
  unfold cV rdV at e
  (try unfold IF at e); split at e
  · rename_i d env1 e1
    cases e
    (try unfold IF at e1); split at e1
    · rename_i d' h1
      cases e1
      obtain ⟨v, h2, h3⟩ := R.imm i _ h1
      exact ⟨v, h2, q v B H (Ex.refl B) R (.imm h3)⟩
    · rename_i o h1
      cases e1
      obtain ⟨B', x, R', hd⟩ := R.freeze h1
      exact ⟨_, (R.own i _ (ownAt_own h1)).1, q _ B' H x R' (.imm hd)⟩
    · cases e1
  · cases e
theorem s_var {i : Nat} {x : Str} {pos : Pos} (h : PE X (.Name x pos) (tVar i)) : PE X (.Name x pos) (rE X.K (cV i)) := h.imp fun σ H Q h => var_imp h
theorem s_const {e : Expr} {v : V} {d : D} (h : PE X e (tC v)) (hd : ∀ B, Rp X.K B v d) : PE X e (rE X.K (cC d)) := h.imp fun σ H Q h => by
  obtain ⟨F, B, ad, env, r, env', R, e, q⟩ := h
  cases e
  exact q v B H (Ex.refl B) R (.imm (hd B))
theorem s_gl {e : Expr} {v : V} (h : PE X e (tC v)) : PE X e (rE X.K (cGl v)) := h.imp fun σ H Q h => by
  obtain ⟨F, B, ad, env, r, env', R, e, q⟩ := h
  unfold cGl at e
  (try unfold IF at e); split at e
  · rename_i d hd
    cases e
    refine q v B H (Ex.refl B) R (.imm ?_)
    cases v <;> cases hd <;> constructor
  · cases e
/-! ### tests -/
theorem tru_ok {B : Hp} {v : V} {d : D} {b : Bool} (ex : Ex B H) (h : Rp K B v d) (e : truD d = some b) : TruV K v H b := by
  cases d with
  | none => cases e; rw [dp_none h]; rfl
  | bool k => cases e; rw [dp_bool h]; rfl
  | int i => cases e; rw [dp_int h]; rfl
  | str s =>
    change (IF (s.length ≤ sizeLine) (some (s.length != 0))) = some b at e
    (try unfold IF at e); split at e
    · rename_i hz
      cases e
      rw [dp_str h]
      refine ⟨hz, ?_⟩
      cases hs : s.length with
      | zero => rfl
      | succ n =>
        show ((n + 1) != 0) = (((n + 1 : Nat) : Int) != 0)
        have h1 : ((n + 1) != 0) = true := by simp
        have h2 : (((n + 1 : Nat) : Int) != 0) = true := by simp; omega
        rw [h1, h2]
    · cases e
  | list ds =>
    cases e
    obtain ⟨a, xs, rfl, h1, r1⟩ := dp_list h
    refine .inl ⟨xs, SqL.of (ex _ _ h1), ?_⟩
    cases r1 <;> rfl
  | tuple ds =>
    cases e
    obtain ⟨a, xs, rfl, h1, r1⟩ := dp_tuple h
    refine .inr (.inl ⟨xs, ex_t ex h1, ?_⟩)
    cases r1 <;> rfl
  | dict _ => cases e
/-- an expression that is no not, and, or, comparison, if -/
def valB : Expr → Bool
  | .UnaryOp .Not _ _ | .BoolOp .. | .IfExp .. | .Compare .. => false
  | _ => true
theorem val_he {e : Expr} {env : PySem.Env} (h : valB e = true) (whole : Sem Value) : isTrue e env whole = (do let v ← whole; standAt e.pos; holding [v] (truthy v)) := by
  cases e with
  | UnaryOp o a p => cases o <;> first | rfl | cases h
  | BoolOp => cases h
  | IfExp => cases h
  | Compare => cases h
  | _ => rfl
theorem s_test {e : Expr} {f : ME} (hv : valB e = true) (h : PE X e (rE X.K f)) : PT X e (rT X.K (tE f)) :=
  (pt_truth h.v (fun w => val_he hv w)).imp fun σ H Q h => by
    obtain ⟨F, B, ad, env, b, env', R, e, q⟩ := h
    unfold tE at e
    (try unfold IF at e); split at e
    · cases e
    · rename_i d env1 e1
      (try unfold IF at e); split at e
      · rename_i k e2
        cases e
        exact ⟨F, B, ad, env, d, env', R, e1, fun v B' H' x R' hd => ⟨_, tru_ok R'.ex hd e2, q B' H' x R'⟩⟩
      · cases e
theorem s_testV {i : Nat} {x : Str} {pos : Pos} (h : PE X (.Name x pos) (tVar i)) : PT X (.Name x pos) (rT X.K (tV i)) :=
  (pt_truth h (fun _ => rfl)).imp fun σ H Q h => by
    obtain ⟨F, B, ad, env, b, env', R, e, q⟩ := h
    unfold tV at e
    (try unfold IF at e); split at e
    · rename_i xs h1
      cases e
      obtain ⟨h2, h3, ho, h4, h5⟩ := R.own i _ h1
      refine ⟨_, h2, _, ?_, q B H (Ex.refl B) R⟩
      cases h5 with
      | lst h5 =>
        refine .inl ⟨_, SqL.of h4, ?_⟩
        cases h5 <;> rfl
    · rename_i b ns h1
      cases e
      obtain ⟨h2, h3, ho, h4, h5⟩ := R.own i _ h1
      obtain ⟨ho', h6, vs, rfl, h7, _⟩ := R.stk i _ _ h1
      refine ⟨_, h2, _, ?_, q B H (Ex.refl B) R⟩
      refine .inl ⟨_, SqL.of h6, ?_⟩
      cases vs <;> cases ns <;> first | rfl | cases h7
    · cases e
    · rename_i hno
      (try unfold IF at e); split at e
      · rename_i d env1 e1
        (try unfold IF at e); split at e
        · rename_i k e2
          cases e
          unfold rdV at e1
          (try unfold IF at e1); split at e1
          · rename_i d' h1
            cases e1
            obtain ⟨v, h2, h3⟩ := R.imm i _ h1
            exact ⟨v, h2, _, tru_ok R.ex h3 e2, q B H (Ex.refl B) R⟩
          · rename_i o h2
            rw [ownAt_own h2] at hno
            cases hno
          · cases e1
        · cases e
      · cases e
theorem s_tnot {e : Expr} {f : MT} {pos : Pos} (h : PT X e (rT X.K f)) : PT X (.UnaryOp .Not e pos) (rT X.K (tNot f)) :=
  (pt_not h).imp fun σ H Q h => by
    obtain ⟨F, B, ad, env, b, env', R, e, q⟩ := h
    unfold tNot at e
    (try unfold IF at e); split at e
    · rename_i b' env1 e1
      cases e
      exact ⟨F, B, ad, env, b', env', R, e1, fun B' H' x R' => q B' H' x R'⟩
    · cases e
theorem s_not {e : Expr} {f : ME} {pos : Pos} (h : PE X e (rE X.K f)) : PE X (.UnaryOp .Not e pos) (rE X.K (cNot f)) :=
  (pe_not h.v).imp fun σ H Q h => one (G := fun x r => ∃ b, x = .bool b ∧ r = .imm (.bool (!b))) h (fun env r env' e => by
    unfold cNot at e
    (try unfold IF at e); split at e
    · rename_i b env1 e1
      cases e
      exact ⟨_, e1, b, rfl, rfl⟩
    · cases e) fun F B ad env' v x r H2 R d1 g q => by
      obtain ⟨b, rfl, rfl⟩ := g
      exact ⟨b, dp_bool d1, q _ B _ (Ex.refl B) R (.imm (.bl _))⟩
theorem s_neg {e : Expr} {f : ME} {pos : Pos} (h : PE X e (rE X.K f)) : PE X (.UnaryOp .USub e pos) (rE X.K (cNeg f)) :=
  (pe_un un_neg h.v).imp fun σ H Q h => one (G := fun x r => ∃ b, x = .int b ∧ r = .imm (.int (-b))) h (fun env r env' e => by
    unfold cNeg at e
    (try unfold IF at e); split at e
    · rename_i b env1 e1
      cases e
      exact ⟨_, e1, b, rfl, rfl⟩
    · cases e) fun F B ad env' v x r H2 R d1 g q => by
      obtain ⟨b, rfl, rfl⟩ := g
      exact ⟨b, dp_int d1, q _ B _ (Ex.refl B) R (.imm (.int _))⟩
/-! and, or -/
theorem s_bcons {k : Bool} {ea eb : Expr} {rest : List Expr} {f g : ME} {pos : Pos} (ha : PE X ea (rE X.K f)) (hb : PE X (.BoolOp (if k then .And else .Or) (eb :: rest) pos) (rE X.K g)) :
    PE X (.BoolOp (if k then .And else .Or) (ea :: eb :: rest) pos) (rE X.K (bCons k f g)) := by
  have key : ∀ (σ : L2.St) (H : Hp) (Q : VK), rE X.K (bCons k f g) σ H Q → rV X.K f σ H fun x H1 => ∃ c, x = .bl c ∧ if c = k then rE X.K g σ H1 Q else Q (.bl c) H1 := fun σ H Q h => by
    obtain ⟨F, B, ad, env, r, env', R, e, q⟩ := h
    unfold bCons at e
    (try unfold IF at e); split at e
    · rename_i b env1 e1
      refine ⟨F, B, ad, env, _, env1, R, e1, fun v B' H' x R' hd => ⟨b, dp_bool hd, ?_⟩⟩
      by_cases hb : b = k
      · rw [if_pos hb] at e ⊢
        exact ⟨F, B', ad, env1, r, env', R', e, fun w B2 H2 x2 R2 ok => q w B2 H2 (x.trans x2) R2 ok⟩
      · rw [if_neg hb] at e ⊢
        cases e
        exact q _ B' H' x R' (.imm (.bl _))
    · cases e
  cases k with
  | true =>
    refine (pe_and ha.v hb).imp fun σ H Q h => ?_
    obtain ⟨F, B, ad, env, d, env', R, e, q⟩ := key σ H Q h
    refine ⟨F, B, ad, env, d, env', R, e, fun v B' H' x R' hd => ?_⟩
    obtain ⟨c, hc, z⟩ := q v B' H' x R' hd
    refine ⟨c, hc, ?_⟩
    cases c with
    | true => exact z
    | false => exact z
  | false =>
    refine (pe_or ha.v hb).imp fun σ H Q h => ?_
    obtain ⟨F, B, ad, env, d, env', R, e, q⟩ := key σ H Q h
    refine ⟨F, B, ad, env, d, env', R, e, fun v B' H' x R' hd => ?_⟩
    obtain ⟨c, hc, z⟩ := q v B' H' x R' hd
    refine ⟨c, hc, ?_⟩
    cases c with
    | true => exact z
    | false => exact z
theorem s_tcons {k : Bool} {ea eb : Expr} {rest : List Expr} {f g : MT} {pos : Pos} (ha : PT X ea (rT X.K f)) (hb : PW X (.BoolOp (if k then .And else .Or) (eb :: rest) pos) (rT X.K g)) :
    PW X (.BoolOp (if k then .And else .Or) (ea :: eb :: rest) pos) (rT X.K (tCons k f g)) := by
  have key : ∀ (σ : L2.St) (H : Hp) (Q : Bool → Hp → Prop), rT X.K (tCons k f g) σ H Q → rT X.K f σ H fun c H1 => if c = k then rT X.K g σ H1 Q else Q c H1 := fun σ H Q h => by
    obtain ⟨F, B, ad, env, r, env', R, e, q⟩ := h
    unfold tCons at e
    (try unfold IF at e); split at e
    · rename_i b env1 e1
      refine ⟨F, B, ad, env, _, env1, R, e1, fun B' H' x R' => ?_⟩
      by_cases hb : b = k
      · rw [if_pos hb] at e ⊢
        exact ⟨F, B', ad, env1, r, env', R', e, fun B2 H2 x2 R2 => q B2 H2 (x.trans x2) R2⟩
      · rw [if_neg hb] at e ⊢
        cases e
        exact q B' H' x R'
    · cases e
  cases k with
  | true =>
    have hw := pw_and ha hb
    refine ⟨fun wh pins s σ H Q I h => hw.run wh pins s σ H Q I ?_⟩
    obtain ⟨F, B, ad, env, d, env', R, e, q⟩ := key σ H Q h
    refine ⟨F, B, ad, env, d, env', R, e, fun B' H' x R' => ?_⟩
    have z := q B' H' x R'
    cases d with
    | true => exact z
    | false => exact z
  | false =>
    have hw := pw_or ha hb
    refine ⟨fun wh pins s σ H Q I h => hw.run wh pins s σ H Q I ?_⟩
    obtain ⟨F, B, ad, env, d, env', R, e, q⟩ := key σ H Q h
    refine ⟨F, B, ad, env, d, env', R, e, fun B' H' x R' => ?_⟩
    have z := q B' H' x R'
    cases d with
    | true => exact z
    | false => exact z
theorem s_ite {c ea eb : Expr} {t : MT} {f g : ME} {pos : Pos} (hc : PT X c (rT X.K t)) (ha : PE X ea (rE X.K f)) (hb : PE X eb (rE X.K g)) : PE X (.IfExp c ea eb pos) (rE X.K (cIte t f g)) :=
  (pe_ifExp hc ha hb).imp fun σ H Q h => by
    obtain ⟨F, B, ad, env, r, env', R, e, q⟩ := h
    unfold cIte at e
    (try unfold IF at e); split at e
    · rename_i env1 e1
      exact ⟨F, B, ad, env, true, env1, R, e1, fun B' H' x R' => ⟨F, B', ad, env1, r, env', R', e, fun w B2 H2 x2 R2 ok => q w B2 H2 (x.trans x2) R2 ok⟩⟩
    · rename_i env1 e1
      exact ⟨F, B, ad, env, false, env1, R, e1, fun B' H' x R' => ⟨F, B', ad, env1, r, env', R', e, fun w B2 H2 x2 R2 ok => q w B2 H2 (x.trans x2) R2 ok⟩⟩
    · cases e
/-! ### arguments, displays -/
theorem s_nil : PA X [] (rA X.K msNil.es) := pa_nil.imp fun σ H Q h => by
  obtain ⟨F, B, ad, env, ds, env', R, e, q⟩ := h
  cases e
  exact q [] B H (Ex.refl B) R .nil
theorem s_cons {e : Expr} {es : List Expr} {f : ME} {fs : MEs} (ho : ordB e = true) (h : PE X e (rE X.K f)) (hs : PA X es (rA X.K fs)) : PA X (e :: es) (rA X.K (esCons f fs)) :=
  (pa_cons h.v hs (ord_star ho es)).imp fun σ H Q h => by
    obtain ⟨F, B, ad, env, ds, env', R, e, q⟩ := h
    unfold esCons at e
    (try unfold IF at e); split at e
    · cases e
    · rename_i d env1 e1
      (try unfold IF at e); split at e
      · cases e
      · rename_i ds' env2 e2
        cases e
        exact ⟨F, B, ad, env, d, env1, R, e1, fun v B1 H1 x1 R1 hd => ⟨F, B1, ad, env1, ds', env', R1, e2, fun vs B2 H2 x2 R2 hds => q _ B2 H2 (x1.trans x2) R2 (.cons (dpM x2 _ hd) hds)⟩⟩
theorem s_lst {es : List Expr} {fs : MEs} {pos : Pos} (h : PA X es (rA X.K fs)) : PE X (.List es pos) (rE X.K (cLst fs)) :=
  (pe_lst h).imp fun σ H Q h => args (G := fun ds r => ds.length ≤ sizeLine ∧ r = .own (.lst ds)) h (fun env r env' e => by
    unfold cLst at e
    (try unfold IF at e); split at e
    · cases e
    · rename_i ds env1 e1
      (try unfold IF at e); split at e
      · cases e
        exact ⟨ds, e1, by assumption, rfl⟩
      · cases e) fun F B ad env' vs ds r H2 R d1 g q => by
      obtain ⟨hz, rfl⟩ := g
      refine ⟨by rw [dpA_len d1]; exact hz, fun p hp => ?_⟩
      obtain ⟨R', ok⟩ := newL R hp d1
      exact q _ B _ (Ex.refl B) R' ok
theorem s_tup {es : List Expr} {fs : MEs} {pos : Pos} {x1 : Nat} (h : PA X es (rA X.K fs)) : PE X (.Tuple es x1 pos) (rE X.K (cTup fs)) :=
  (pe_tup h).imp fun σ H Q h => args (G := fun ds r => ds.length ≤ sizeLine ∧ r = .imm (.tuple ds)) h (fun env r env' e => by
    unfold cTup at e
    (try unfold IF at e); split at e
    · cases e
    · rename_i ds env1 e1
      (try unfold IF at e); split at e
      · cases e
        exact ⟨ds, e1, by assumption, rfl⟩
      · cases e) fun F B ad env' vs ds r H2 R d1 g q => by
      obtain ⟨hz, rfl⟩ := g
      refine ⟨by rw [dpA_len d1]; exact hz, fun p hp => ?_⟩
      obtain ⟨B', x, R', ok⟩ := newT R hp d1
      exact q _ B' _ x R' ok
end
end Z
/-! Zv: built-ins, isinstance, subscripts, slices, methods. -/
namespace Z
open PySem PySem.Spec PyProof.Rows L2
open Evl (Ex ex_rd ex_l ex_t)
def biName : Bi → Str
  | .len => "len" | .list => "list" | .tuple => "tuple" | .int => "int" | .min => "min" | .max => "max" | .all => "all" | .any => "any" | .sum => "sum" | .str => "str"
def tyName : Ty → String
  | .int => "int" | .str => "str" | .bool => "bool" | .list => "list" | .tuple => "tuple" | .dict => "dict"
section
variable {K : PySem.W.Frag} {X : Cx} {σ : L2.St} {H : Hp}
theorem bools_dp {B : Hp} : ∀ {ds : List D} {vs : List V} {bs : List Bool}, RpAll K B vs ds → boolsD ds = some bs → vs = bs.map V.bl
  | [], _, bs, h, e => by cases h; cases e; rfl
  | d :: ds, _, bs, h, e => by
    cases h with
    | cons h1 h2 =>
      cases d with
      | bool b =>
        change (boolsD ds).map (b :: ·) = some bs at e
        cases q : boolsD ds with
        | none => rw [q] at e; cases e
        | some r =>
          rw [q] at e
          cases e
          rw [bools_dp h2 q, dp_bool h1]
          rfl
      | _ => cases e
theorem ints_dp {B : Hp} : ∀ {ds : List D} {vs : List V} {bs : List Int}, RpAll K B vs ds → intsD ds = some bs → vs = bs.map V.int
  | [], _, bs, h, e => by cases h; cases e; rfl
  | d :: ds, _, bs, h, e => by
    cases h with
    | cons h1 h2 =>
      cases d with
      | int b =>
        change (intsD ds).map (b :: ·) = some bs at e
        cases q : intsD ds with
        | none => rw [q] at e; cases e
        | some r =>
          rw [q] at e
          cases e
          rw [ints_dp h2 q, dp_int h1]
          rfl
      | _ => cases e
theorem dpA1 {B : Hp} {vs : List V} {d : D} (h : RpAll K B vs [d]) : ∃ v, vs = [v] ∧ Rp K B v d := by
  cases h with
  | cons a b => cases b; exact ⟨_, rfl, a⟩
theorem dpA2 {B : Hp} {vs : List V} {d e : D} (h : RpAll K B vs [d, e]) : ∃ v u, vs = [v, u] ∧ Rp K B v d ∧ Rp K B u e := by
  cases h with
  | cons a b =>
    obtain ⟨u, rfl, c⟩ := dpA1 b
    exact ⟨_, u, rfl, a, c⟩
theorem cBi_some {b : Bi} {es : MEs} {env env' : Env} {r : Res} (h : cBi b es env = some (r, env')) : ∃ ds, es env = some (ds, env') ∧ biD b ds = some r := by
  unfold cBi at h
  (try unfold IF at h); split at h
  · cases h
  · rename_i ds env1 e1
    (try unfold IF at h); split at h
    · cases h
    · rename_i r' e2
      cases h
      exact ⟨ds, e1, e2⟩
/-- what is known of the data and wanted of the result -/
abbrev Kq (K : PySem.W.Frag) (F : Fx) (B : Hp) (ad : Nat → Addr) (env' : Env) (σ : L2.St) (r : Res) (Q : VK) : Prop := ∀ w B' H', Ex B B' → Rel K F B' ad env' σ H' → ROk K F B' ad env' H' w r → Q w H'
theorem s_bi1 {b : Bi} {e : Expr} {es : List Expr} {p pos : Pos} {fs : MEs} {r : List V → Hp → VK → Prop} (hp : PE X (.Call (.Name (biName b) p) (e :: es) [] pos) (tCB r (rA X.K fs)))
    (k : ∀ (σ : L2.St) F B ad env' vs ds res H2 Q, Rel X.K F B ad env' σ H2 → RpAll X.K B vs ds → biD b ds = some res → Kq X.K F B ad env' σ res Q → r vs H2 Q) :
    PE X (.Call (.Name (biName b) p) (e :: es) [] pos) (rE X.K (cBi b fs)) :=
  hp.imp fun σ H Q h => args (G := fun ds r => biD b ds = some r) h (fun env r env' e => cBi_some e) fun F B ad env' vs ds r H2 R d1 g q => k σ F B ad env' vs ds r H2 Q R d1 g q
theorem s_bi (b : Bi) {e : Expr} {es : List Expr} {p pos : Pos} {fs : MEs} (hc : X.calm = true) (hg : Gl X (biName b)) (hm : X.mg (biName b) = none) (ho : ordB e = true) (hos : es.all ordB = true) (ha : PA X (e :: es) (rA X.K fs)) :
    PE X (.Call (.Name (biName b) p) (e :: es) [] pos) (rE X.K (cBi b fs)) := by
  cases b with
  | len =>
    refine s_bi1 (b := .len) (pe_callB (call_len_seq.or call_len_str) hg hm PySem.boot_len ha (by decide) (by decide) (ord_star ho es) (ords_plain hos)) fun σ F B ad env' vs ds res H2 Q R d1 e q => ?_
    change lenD ds = some res at e
    unfold lenD at e
    (try unfold IF at e); split at e
    · cases e
      obtain ⟨v, rfl, d2⟩ := dpA1 d1
      obtain ⟨a, us, rfl, h1, r1⟩ := dp_list d2
      refine .inl ⟨a, us, rfl, .inl (SqL.of (R.ex _ _ h1)), ?_⟩
      rw [dpA_len r1]
      exact q _ B _ (Ex.refl B) R (.imm (.int _))
    · cases e
      obtain ⟨v, rfl, d2⟩ := dpA1 d1
      obtain ⟨a, us, rfl, h1, r1⟩ := dp_tuple d2
      refine .inl ⟨a, us, rfl, .inr (ex_t R.ex h1), ?_⟩
      rw [dpA_len r1]
      exact q _ B _ (Ex.refl B) R (.imm (.int _))
    · cases e
      obtain ⟨v, rfl, d2⟩ := dpA1 d1
      obtain ⟨a, ns, rfl, h1, rfl⟩ := dp_scr d2
      refine .inl ⟨a, _, rfl, .inl (ex_l R.ex h1), ?_⟩
      rw [List.length_map] at q ⊢
      exact q _ B _ (Ex.refl B) R (.imm (.int _))
    · (try unfold IF at e); split at e
      · rename_i hz
        cases e
        obtain ⟨v, rfl, d2⟩ := dpA1 d1
        rw [dp_str d2]
        exact .inr ⟨_, rfl, hz, q _ B _ (Ex.refl B) R (.imm (.int _))⟩
      · cases e
    · cases e
  | list =>
    refine s_bi1 (b := .list) (pe_callTy call_list_of hg hm (by decide +kernel) ha (by decide) (by decide) (ord_star ho es) (ords_plain hos)) fun σ F B ad env' vs ds res H2 Q R d1 e q => ?_
    change listD ds = some res at e
    unfold listD at e
    (try unfold IF at e); split at e
    · cases e
      obtain ⟨v, rfl, d2⟩ := dpA1 d1
      obtain ⟨a, us, rfl, h1, r1⟩ := dp_list d2
      refine ⟨a, us, rfl, .inl (SqL.of (R.ex _ _ h1)), fun l hl => ?_⟩
      obtain ⟨R', ok⟩ := newL R hl r1
      exact q _ B _ (Ex.refl B) R' ok
    · cases e
      obtain ⟨v, rfl, d2⟩ := dpA1 d1
      obtain ⟨a, us, rfl, h1, r1⟩ := dp_tuple d2
      refine ⟨a, us, rfl, .inr (ex_t R.ex h1), fun l hl => ?_⟩
      obtain ⟨R', ok⟩ := newL R hl r1
      exact q _ B _ (Ex.refl B) R' ok
    · cases e
  | tuple =>
    refine s_bi1 (b := .tuple) (pe_callTy call_tuple_of hg hm (by decide +kernel) ha (by decide) (by decide) (ord_star ho es) (ords_plain hos)) fun σ F B ad env' vs ds res H2 Q R d1 e q => ?_
    change tupleD ds = some res at e
    unfold tupleD at e
    (try unfold IF at e); split at e
    · cases e
      obtain ⟨v, rfl, d2⟩ := dpA1 d1
      obtain ⟨a, us, rfl, h1, r1⟩ := dp_list d2
      refine ⟨a, us, rfl, .inl ⟨SqL.of (R.ex _ _ h1), fun l hl => ?_⟩⟩
      obtain ⟨B', x, R', ok⟩ := newT R hl r1
      exact q _ B' _ x R' ok
    · cases e
      obtain ⟨v, rfl, d2⟩ := dpA1 d1
      obtain ⟨a, us, rfl, h1, r1⟩ := dp_tuple d2
      exact ⟨a, us, rfl, .inr ⟨ex_t R.ex h1, q _ B _ (Ex.refl B) R (.imm d2)⟩⟩
    · cases e
  | int =>
    refine s_bi1 (b := .int) (pe_callTy call_int1 hg hm (by decide +kernel) ha (by decide) (by decide) (ord_star ho es) (ords_plain hos)) fun σ F B ad env' vs ds res H2 Q R d1 e q => ?_
    change int1D ds = some res at e
    unfold int1D at e
    (try unfold IF at e); split at e
    · cases e
      obtain ⟨v, rfl, d2⟩ := dpA1 d1
      rw [dp_int d2]
      exact .inl ⟨_, rfl, q _ B _ (Ex.refl B) R (.imm (.int _))⟩
    · cases e
      obtain ⟨v, rfl, d2⟩ := dpA1 d1
      rw [dp_bool d2]
      exact .inr ⟨_, rfl, q _ B _ (Ex.refl B) R (.imm (.int _))⟩
    · cases e
  | min =>
    refine s_bi1 (b := .min) (pe_callB (call_min2 hc) hg hm PyProof.Rows.boot_min ha (by decide) (by decide) (ord_star ho es) (ords_plain hos)) fun σ F B ad env' vs ds res H2 Q R d1 e q => ?_
    change int2D (fun i j => if j < i then j else i) ds = some res at e
    unfold int2D at e
    (try unfold IF at e); split at e
    · cases e
      obtain ⟨v, u, rfl, d2, d3⟩ := dpA2 d1
      rw [dp_int d2, dp_int d3]
      exact ⟨_, _, rfl, q _ B _ (Ex.refl B) R (.imm (.int _))⟩
    · cases e
  | max =>
    refine s_bi1 (b := .max) (pe_callB (call_max2 hc) hg hm PyProof.Rows.boot_max ha (by decide) (by decide) (ord_star ho es) (ords_plain hos)) fun σ F B ad env' vs ds res H2 Q R d1 e q => ?_
    change int2D (fun i j => if j > i then j else i) ds = some res at e
    unfold int2D at e
    (try unfold IF at e); split at e
    · cases e
      obtain ⟨v, u, rfl, d2, d3⟩ := dpA2 d1
      rw [dp_int d2, dp_int d3]
      exact ⟨_, _, rfl, q _ B _ (Ex.refl B) R (.imm (.int _))⟩
    · cases e
  | all =>
    refine s_bi1 (b := .all) (pe_callB (cr_all hc) hg hm PyProof.Rows.boot_all ha (by decide) (by decide) (ord_star ho es) (ords_plain hos)) fun σ F B ad env' vs ds res H2 Q R d1 e q => ?_
    change allD (fun bs => bs.all id) ds = some res at e
    unfold allD at e
    (try unfold IF at e); split at e
    · (try unfold IF at e); split at e
      · rename_i bs hb
        cases e
        obtain ⟨v, rfl, d2⟩ := dpA1 d1
        obtain ⟨a, us, rfl, h1, r1⟩ := dp_list d2
        rw [bools_dp r1 hb] at h1
        exact ⟨a, bs, rfl, SqL.of (R.ex _ _ h1), q _ B _ (Ex.refl B) R (.imm (.bl _))⟩
      · cases e
    · cases e
  | any =>
    refine s_bi1 (b := .any) (pe_callB (cr_any hc) hg hm PyProof.Rows.boot_any ha (by decide) (by decide) (ord_star ho es) (ords_plain hos)) fun σ F B ad env' vs ds res H2 Q R d1 e q => ?_
    change allD (fun bs => bs.any id) ds = some res at e
    unfold allD at e
    (try unfold IF at e); split at e
    · (try unfold IF at e); split at e
      · rename_i bs hb
        cases e
        obtain ⟨v, rfl, d2⟩ := dpA1 d1
        obtain ⟨a, us, rfl, h1, r1⟩ := dp_list d2
        rw [bools_dp r1 hb] at h1
        exact ⟨a, bs, rfl, SqL.of (R.ex _ _ h1), q _ B _ (Ex.refl B) R (.imm (.bl _))⟩
      · cases e
    · cases e
  | sum =>
    refine s_bi1 (b := .sum) (pe_callB (cr_sum hc) hg hm PyProof.Rows.boot_sum ha (by decide) (by decide) (ord_star ho es) (ords_plain hos)) fun σ F B ad env' vs ds res H2 Q R d1 e q => ?_
    change sumD ds = some res at e
    unfold sumD at e
    (try unfold IF at e); split at e
    · (try unfold IF at e); split at e
      · rename_i bs hb
        cases e
        obtain ⟨v, rfl, d2⟩ := dpA1 d1
        obtain ⟨a, us, rfl, h1, r1⟩ := dp_list d2
        rw [ints_dp r1 hb] at h1
        exact ⟨a, bs, rfl, SqL.of (R.ex _ _ h1), q _ B _ (Ex.refl B) R (.imm (.int _))⟩
      · cases e
    · cases e
  | str =>
    refine s_bi1 (b := .str) (pe_callTy call_str_int hg hm (by decide +kernel) ha (by decide) (by decide) (ord_star ho es) (ords_plain hos)) fun σ F B ad env' vs ds res H2 Q R d1 e q => ?_
    change strD ds = some res at e
    unfold strD at e
    (try unfold IF at e); split at e
    · (try unfold IF at e); split at e
      · rename_i hz
        cases e
        obtain ⟨v, rfl, d2⟩ := dpA1 d1
        rw [dp_int d2]
        exact ⟨_, rfl, hz, q _ B _ (Ex.refl B) R (.imm (.str _))⟩
      · cases e
    · cases e
/-! ### isinstance -/
def tyD : D → String
  | .none => "NoneType" | .bool _ => "bool" | .int _ => "int" | .str _ => "str" | .list _ => "list" | .tuple _ => "tuple" | .dict _ => "dict"
theorem ty_dp {B : Hp} {v : V} {d : D} (ex : Ex B H) (h : Rp K B v d) (hd : ∀ k, d ≠ .dict k) : TyX K H v (.type (tyD d)) := by
  cases h with
  | non => exact .base .non
  | bl b => exact .base (.bl b)
  | int i => exact .base (.int i)
  | str x => exact .base (.str x)
  | lst a b => exact .base (.lst (ex _ _ a))
  | @tup a xs ds h1 h2 =>
    rcases h1 with (h1 | ⟨o, h1⟩) | ⟨o, its, n, h1, h3, _⟩
    · exact .base (.tup (ex _ _ h1))
    · exact .fTuple (ex _ _ h1)
    · exact .kTuple h1 h3
  | scr a => exact absurd rfl (hd _)
  | junk => exact absurd rfl (hd _)
theorem kit_all : ∀ (s : String) (t : Ty), s ∈ ["NoneType", "bool", "int", "str", "list", "tuple"] → kitB s (tyName t) = some (s == tyName t || (s == "bool" && tyName t == "int")) := by
  intro s t h
  simp only [List.mem_cons, List.not_mem_nil, or_false] at h
  rcases h with rfl | rfl | rfl | rfl | rfl | rfl <;> cases t <;> decide +kernel
theorem isi_kit {d : D} {t : Ty} {b : Bool} (h : isiD d t = some b) : kitB (tyD d) (tyName t) = some b ∧ ∀ k, d ≠ .dict k := by
  cases d with
  | dict k => cases t <;> cases h
  | _ =>
    refine ⟨?_, fun k z => nomatch z⟩
    rw [kit_all _ _ (by simp [tyD])]
    cases t <;> cases h <;> rfl
theorem s_isi {e : Expr} {f : ME} {t : Ty} {p p2 pos : Pos} (hg : Gl X "isinstance") (hm : X.mg "isinstance" = none) (ht : PE X (.Name (Str.ofString (tyName t)) p2) (tC (.ty (tyName t)))) (ho : ordB e = true) (h : PE X e (rE X.K f)) :
    PE X (.Call (.Name "isinstance" p) [e, .Name (Str.ofString (tyName t)) p2] [] pos) (rE X.K (cIsi f t)) :=
  (pe_callB call_isi hg hm (by decide +kernel) (pa_cons h.v (pa_cons ht pa_nil) (ord_star ho _)) (by decide) (by decide) (ord_star ho _) rfl).imp fun σ H Q h =>
    one (G := fun x r => ∃ b, isiD x t = some b ∧ r = .imm (.bool b)) h (fun env r env' e => by
      unfold cIsi at e
      (try unfold IF at e); split at e
      · cases e
      · rename_i x env1 e1
        (try unfold IF at e); split at e
        · cases e
        · rename_i b e2
          cases e
          exact ⟨x, e1, b, e2, rfl⟩) fun F B ad env' v x r H2 R d1 g q => by
        obtain ⟨b, hb, rfl⟩ := g
        obtain ⟨h1, h2⟩ := isi_kit hb
        exact ⟨v, _, _, _, b, rfl, .ty _, ty_dp R.ex d1 h2, kit_ty h1, q _ B _ (Ex.refl B) R (.imm (.bl _))⟩
/-! ### a slot's own object -/
theorem s_lenv {i : Nat} {x : Str} {p p2 pos : Pos} (hg : Gl X "len") (hm : X.mg "len" = none) (h : PE X (.Name x p2) (tVar i)) : PE X (.Call (.Name "len" p) [.Name x p2] [] pos) (rE X.K (cLenv i)) :=
  (pe_callB (call_len_seq.or call_len_str) hg hm PySem.boot_len (pa_cons h pa_nil)).imp fun σ H Q h => by
    obtain ⟨F, B, ad, env, r, env', R, e, q⟩ := h
    unfold cLenv at e
    (try unfold IF at e); split at e
    · rename_i xs h1
      cases e
      obtain ⟨h2, h3, ho, h4, h5⟩ := R.own i _ h1
      cases h5 with
      | lst h5 =>
        refine ⟨_, h2, .inl ⟨_, _, rfl, .inl (SqL.of h4), ?_⟩⟩
        rw [dpA_len h5]
        exact q _ B _ (Ex.refl B) R (.imm (.int _))
    · rename_i b ns h1
      cases e
      obtain ⟨h2, h3, ho, h4, h5⟩ := R.own i _ h1
      obtain ⟨ho', h6, vs, rfl, h7, _⟩ := R.stk i _ _ h1
      refine ⟨_, h2, .inl ⟨_, _, rfl, .inl (SqL.of h6), ?_⟩⟩
      rw [h7]
      exact q _ B _ (Ex.refl B) R (.imm (.int _))
    · cases e
    · obtain ⟨ds, e1, e2⟩ := cBi_some e
      unfold esCons at e1
      (try unfold IF at e1); split at e1
      · cases e1
      · rename_i d env1 e3
        cases e1
        refine var_imp (K := X.K) (rV_rE ⟨F, B, ad, env, d, _, R, e3, fun v B' H' x R' hd => ?_⟩)
        change lenD [d] = some r at e2
        unfold lenD at e2
        (try unfold IF at e2); split at e2
        · rename_i z
          cases z
          cases e2
          obtain ⟨a, us, rfl, h1, r1⟩ := dp_list hd
          refine .inl ⟨a, us, rfl, .inl (SqL.of (R'.ex _ _ h1)), ?_⟩
          rw [dpA_len r1]
          exact q _ B' _ x R' (.imm (.int _))
        · rename_i z
          cases z
          cases e2
          obtain ⟨a, us, rfl, h1, r1⟩ := dp_tuple hd
          refine .inl ⟨a, us, rfl, .inr (ex_t R'.ex h1), ?_⟩
          rw [dpA_len r1]
          exact q _ B' _ x R' (.imm (.int _))
        · rename_i z
          cases z
          cases e2
          obtain ⟨a, ns, rfl, h1, rfl⟩ := dp_scr hd
          refine .inl ⟨a, _, rfl, .inl (ex_l R'.ex h1), ?_⟩
          rw [List.length_map] at q ⊢
          exact q _ B' _ x R' (.imm (.int _))
        · rename_i z
          cases z
          (try unfold IF at e2); split at e2
          · rename_i hz
            cases e2
            rw [dp_str hd]
            exact .inr ⟨_, rfl, hz, q _ B' _ x R' (.imm (.int _))⟩
          · cases e2
        · cases e2
theorem cIx_some {a b : ME} {env env' : Env} {r : Res} (h : cIx a b env = some (r, env')) : ∃ x env1 y, fz (a env) = some (x, env1) ∧ fz (b env1) = some (y, env') ∧ ∃ d, ixD x y = some d ∧ r = .imm d := by
  unfold cIx at h
  (try unfold IF at h); split at h
  · cases h
  · rename_i x env1 e1
    (try unfold IF at h); split at h
    · cases h
    · rename_i y env2 e2
      (try unfold IF at h); split at h
      · cases h
      · rename_i r' e3
        cases h
        exact ⟨x, env1, y, e1, e2, _, e3, rfl⟩
abbrev rIxA (K : PySem.W.Frag) : R2 := fun x y H Q => ((rIxL K x y H Q ∨ rIxT K x y H Q) ∨ rIxS x y H Q)
theorem ix_imp {f g : ME} {Q : VK} (h : rE K (cIx f g) σ H Q) : tOp (rIxA K) (rV K f) (rV K g) σ H Q :=
  two (G := fun x y r => ∃ d, ixD x y = some d ∧ r = .imm d) h (fun env r env' e => cIx_some e) fun F B ad env' v u x y res H2 R d1 d2 e q => by
      obtain ⟨d, e, rfl⟩ := e
      unfold ixD at e
      (try unfold IF at e); split at e
      · obtain ⟨a, us, rfl, h3, r1⟩ := dp_list d1
        obtain ⟨w, h7, h8⟩ := atI_dp r1 e
        exact .inl (.inl ⟨a, us, _, w, rfl, dp_int d2, SqL.of (R.ex _ _ h3), h7, q w B H2 (Ex.refl B) R (.imm h8)⟩)
      · obtain ⟨a, us, rfl, h3, r1⟩ := dp_tuple d1
        obtain ⟨w, h7, h8⟩ := atI_dp r1 e
        exact .inl (.inr ⟨a, us, _, w, rfl, dp_int d2, ex_t R.ex h3, h7, q w B H2 (Ex.refl B) R (.imm h8)⟩)
      · obtain ⟨a, ns, rfl, h3, rfl⟩ := dp_scr d1
        have ha : RpAll K B (ns.map V.int) (ns.map PyData.int) := by
          clear e h3 d1
          induction ns with
          | nil => exact .nil
          | cons n r ih => exact .cons (.int n) ih
        obtain ⟨w, h7, h8⟩ := atI_dp ha e
        exact .inl (.inl ⟨a, _, _, w, rfl, dp_int d2, ex_l R.ex h3, h7, q w B H2 (Ex.refl B) R (.imm h8)⟩)
      · rename_i s i
        (try unfold IF at e); split at e
        · rename_i hz
          cases hc : atI s.cps.toList i with
          | none => rw [hc] at e; cases e
          | some c =>
            rw [hc] at e
            cases e
            exact .inr ⟨_, _, c, dp_str d1, dp_int d2, hz, hc, q _ B H2 (Ex.refl B) R (.imm (.str _))⟩
        · cases e
      · cases e
theorem s_ix {ea eb : Expr} {f g : ME} {pos : Pos} (ho : ordB eb = true) (ha : PE X ea (rE X.K f)) (hb : PE X eb (rE X.K g)) : PE X (.Subscript ea eb pos) (rE X.K (cIx f g)) :=
  (pe_ix ((ix_list.or ix_tup).or ix_str) ha.v hb.v (ord_ix ho)).imp fun σ H Q h => ix_imp h
theorem s_ixv {i : Nat} {x : Str} {e : Expr} {f : ME} {p pos : Pos} (ho : ordB e = true) (h : PE X (.Name x p) (tVar i)) (he : PE X e (rE X.K f)) : PE X (.Subscript (.Name x p) e pos) (rE X.K (cIxv i f)) :=
  (pe_ix ((ix_list.or ix_tup).or ix_str) h he.v (ord_ix ho)).imp fun σ H Q h => by
    obtain ⟨F, B, ad, env, r, env', R, e, q⟩ := h
    unfold cIxv at e
    (try unfold IF at e); split at e
    · exact var_imp (K := X.K) (rV_rE (ix_imp ⟨F, B, ad, env, r, env', R, e, q⟩))
    · rename_i o0 h0
      (try unfold IF at e); split at e
      · rename_i k env1 e1
        (try unfold IF at e); split at e
        · rename_i xs h1
          (try unfold IF at e); split at e
          · rename_i d h2
            cases e
            refine ⟨_, (R.own i _ h0).1, F, B, ad, env, _, env', R, e1, fun v B' H' x R' hd => ?_⟩
            obtain ⟨h3, h4, hh, h5, h6⟩ := R'.own i _ h1
            cases h6 with
            | lst h6 =>
              obtain ⟨w, h7, h8⟩ := atI_dp h6 h2
              exact .inl (.inl ⟨_, _, k, w, rfl, dp_int hd, SqL.of h5, h7, q w B' H' x R' (.imm h8)⟩)
          · cases e
        · cases e
      · cases e
end
end Z
/-! Zw: slices, subscripts, pop, what is walked over, comprehensions. -/
namespace Z
open PySem PySem.Spec PyProof.Rows L2
open Evl (Ex ex_rd ex_l ex_t)
theorem _root_.L2.PO.imp {X : Cx} {e : Option Expr} {t t' : TO} (h : PO X e t) (k : ∀ σ H Q, t' σ H Q → t σ H Q) : PO X e t' := ⟨fun pins s σ H Q I q => h.run pins s σ H Q I (k σ H Q q)⟩
section
variable {K : PySem.W.Frag} {X : Cx} {σ : L2.St} {H : Hp}
theorem s_pnone : PO X none (rP X.K msNil.p) := PO.imp po_none fun σ H Q h => by
  obtain ⟨F, B, ad, env, o, env', R, e, q⟩ := h
  cases e
  exact q B H (Ex.refl B) R
theorem s_psome {e : Expr} {f : ME} (h : PE X e (rE X.K f)) : PO X (some e) (rP X.K (pOne f)) := PO.imp (po_some h.v) fun σ H Q h => by
  obtain ⟨F, B, ad, env, o, env', R, e, q⟩ := h
  unfold pOne at e
  (try unfold IF at e); split at e
  · rename_i i env1 e1
    cases e
    exact ⟨F, B, ad, env, _, env', R, e1, fun v B' H' x R' hd => ⟨i, dp_int hd, q B' H' x R'⟩⟩
  · cases e
theorem sl_imp {f : ME} {l h : MP} {Q : VK} (hq : rE K (cSl f l h) σ H Q) : tSl (rSlL K) (rV K f) (rP K l) (rP K h) σ H Q := by
  obtain ⟨F, B, ad, env, r, env', R, e, q⟩ := hq
  unfold cSl at e
  (try unfold IF at e); split at e
  · cases e
  · rename_i x env0 e0
    (try unfold IF at e); split at e
    · cases e
    · rename_i l' env1 e1
      (try unfold IF at e); split at e
      · cases e
      · rename_i h' env2 e2
        (try unfold IF at e); split at e
        · cases e
        · rename_i r' h1
          cases e
          refine ⟨F, B, ad, env, _, env0, R, e0, fun v B0 H0 x0 R0 hd => ⟨F, B0, ad, env0, _, env1, R0, e1, fun B1 H1 x1 R1 => ⟨F, B1, ad, env1, _, env', R1, e2, fun B2 H2 x2 R2 => ?_⟩⟩⟩
          unfold slD at h1
          (try unfold IF at h1); split at h1
          · cases h1
            obtain ⟨a, us, rfl, h3, r1⟩ := dp_list hd
            refine ⟨_, _, rfl, SqL.of (R2.ex _ _ (x2 _ _ (x1 _ _ h3))), fun p hp => ?_⟩
            obtain ⟨R', ok⟩ := newL R2 hp (dpA_cut l' h' (dpAM (x1.trans x2) _ r1))
            exact q _ B2 _ ((x0.trans x1).trans x2) R' ok
          · cases h1
theorem s_sl {ea : Expr} {f : ME} {lo hi : Option Expr} {l h : MP} {p2 pos : Pos} (ha : PE X ea (rE X.K f)) (hl : PO X lo (rP X.K l)) (hh : PO X hi (rP X.K h)) : PE X (.Subscript ea (.Slice lo hi none p2) pos) (rE X.K (cSl f l h)) :=
  (pe_slice sl_list ha.v hl hh).imp fun σ H Q hq => sl_imp hq
theorem s_slv {i : Nat} {x : Str} {lo hi : Option Expr} {l h : MP} {p p2 pos : Pos} (hv : PE X (.Name x p) (tVar i)) (hl : PO X lo (rP X.K l)) (hh : PO X hi (rP X.K h)) : PE X (.Subscript (.Name x p) (.Slice lo hi none p2) pos) (rE X.K (cSlv i l h)) :=
  (pe_slice sl_list hv hl hh).imp fun σ H Q hq => by
    obtain ⟨F, B, ad, env, r, env', R, e, q⟩ := hq
    unfold cSlv at e
    (try unfold IF at e); split at e
    · exact var_imp (K := X.K) (rV_rE (sl_imp ⟨F, B, ad, env, r, env', R, e, q⟩))
    · rename_i o0 h0
      (try unfold IF at e); split at e
      · cases e
      · rename_i l' env1 e1
        (try unfold IF at e); split at e
        · cases e
        · rename_i h' env2 e2
          (try unfold IF at e); split at e
          · rename_i xs h1
            cases e
            refine ⟨_, (R.own i _ h0).1, F, B, ad, env, _, env1, R, e1, fun B1 H1 x1 R1 => ⟨F, B1, ad, env1, _, env', R1, e2, fun B2 H2 x2 R2 => ?_⟩⟩
            obtain ⟨h3, h4, hh, h5, h6⟩ := R2.own i _ h1
            cases h6 with
            | lst h6 =>
              refine ⟨_, _, rfl, SqL.of h5, fun p hp => ?_⟩
              obtain ⟨R', ok⟩ := newL R2 hp (dpA_cut l' h' h6)
              exact q _ B2 _ (x1.trans x2) R' ok
          · cases e
theorem s_popv {i : Nat} {x : Str} {p ap pos : Pos} (hl : (ap.endLine == pos.line) = true) (h : PE X (.Name x p) (tVar i)) : PE X (.Call (.Attribute (.Name x p) "pop" ap) [] [] pos) (rE X.K (cPopv i)) :=
  (pe_bm0 PySem.F.plainAttrs_list PySem.F.slot_list_pop PySem.F.type_list_pop mt_pop h (by rfl) hl).imp fun σ H Q h => by
    obtain ⟨F, B, ad, env, r, env', R, e, q⟩ := h
    unfold cPopv at e
    (try unfold IF at e); split at e
    · rename_i xs h1
      (try unfold IF at e); split at e
      · rename_i y h2
        cases e
        obtain ⟨h3, h4, ho, h5, h6⟩ := R.own i _ h1
        cases h6 with
        | @lst vs _ h6 =>
          obtain ⟨v, h7, h8⟩ := dpA_at _ h6 h2
          refine ⟨_, h3, .inl ⟨rfl, _, SqL.of h5⟩, _, vs, v, rfl, rfl, h5, ?_, q v B _ (Ex.refl B) (R.setO h1 (.lst (dpA_dropLast h6))) (.imm h8)⟩
          rw [dpA_len h6]
          exact h7
      · cases e
    · cases e
/-! ### a list grows by a tuple's members -/
section
open PySem.AutoSeq1
theorem grow_tup (a : Addr) (us : Array Value) (c : Nat) (t : Addr) (vs : Array Value) (c2 : Nat) (dd : Option Addr) (sl : Array (Option Value)) (h0 : ¬(!us.isEmpty && Builtin.List.listTooLong (us.size + vs.size)) = true) (h1 : us.size ≤ sizeLine) (h2 : us.size + vs.size ≤ sizeLine + 1) :
    Meets (Builtin.«list.extend» ⟨[.ref a, .ref t], []⟩) (fun _ R s => s.heap.get? a = some { cls := .type "list", dict := none, data := .seq us c, slots := #[] } ∧ s.heap.get? t = some { cls := .type "tuple", dict := dd, data := .seq vs c2, slots := sl } ∧
      R (.ok (.ret Value.none)) { s with heap := s.heap.update a (Obj.mapSeq fun x => x ++ vs), toks := s.toks }) :=
  .of_wp fun prog w A R s h => by
    obtain ⟨hp, gg, d, tk, os⟩ := s
    obtain ⟨hl, hb, h⟩ := h
    have f2 := AutoSeq1.sub_tuple_tuple; have f3 := AutoSeq1.sub_list_list; have f4 := AutoSeq1.sub_tuple_list; have f5 := AutoSeq1.sub_list_tuple; have f1 := AutoSeq1.idx_int
    have hz : (us ++ vs).size ≤ sizeLine + 1 := by rw [Array.size_append]; exact h2
    wp_walk using (wpAny_updateSeq hl rfl (hz := h1) (_hz' := hz)), wpAny_loadPart' hl, wpAny_loadPart' hb
    exact ⟨_, rfl, h⟩
end
def rExtT (K : PySem.W.Frag) : V → List V → Hp → VK → Prop := fun x vs H Q => ∃ l b xs zs, x = .ref l ∧ vs = [.ref b] ∧ H l = some (.lst xs) ∧ SqT K H b zs ∧ xs.length + zs.length ≤ sizeLine ∧ Q .non (upd H l (.lst (xs ++ zs)))
theorem mt_extT : MtM X "list.extend" (rExtT X.K) := by
  intro pins s σ H x vs v us Q I rx rv h
  obtain ⟨l, b, xs, zs, rfl, rfl, hH, hB, hz, q⟩ := h
  cases rx
  obtain ⟨u, rfl, ru⟩ := rv.one
  cases ru
  obtain ⟨w1, its, n, r, hl, e⟩ := I.lstM hH
  obtain ⟨its2, r2, ⟨⟨cls2, dd2, data2, sl2⟩, e2, hc2, n2, hd2⟩, w2⟩ := I.tuple hB
  simp only at hc2 hd2
  subst hc2 hd2
  have hr2 := r2.length
  have hsum : its.toArray.size + its2.toArray.size ≤ sizeLine := by rw [List.size_toArray, List.size_toArray]; omega
  have hlong : ¬ (!its.toArray.isEmpty && Builtin.List.listTooLong (its.toArray.size + its2.toArray.size)) = true := by
    rw [notLongL hsum, Bool.and_false]
    decide
  refine call_meets F.slot_list_extend ⟨_, e, rfl⟩ F.entry_list_extend (F.args_list_extend_2 _ _) (grow_tup l its.toArray n b its2.toArray n2 dd2 sl2 hlong (by rw [List.size_toArray]; omega) (by omega)) ⟨e, e2, ?_⟩
  refine ⟨.non, _, I.lset (its' := its ++ its2) hH e (by simp) (r.append r2) ?_, rfl, q⟩
  rw [List.length_append]
  omega
theorem mt_extA : MtM X "list.extend" (fun x vs H Q => rExtend x vs H Q ∨ rExtT X.K x vs H Q) := fun pins s σ H x vs v us Q I rx rv h => h.elim (fun h => mt_extend pins s σ H x vs v us Q I rx rv h) (fun h => mt_extT pins s σ H x vs v us Q I rx rv h)
/-! ### what is walked over -/
theorem itOk_list {B : Hp} {a : Addr} {xs : List V} {ds : List D} (h : B a = some (.lst xs)) (r : RpAll K B xs ds) : ItOk K B (Itl K a) ds :=
  ⟨fun H => SqL K H a xs, YAt xs, by have w := walk_list (K := K) (a := a) (xs := xs); rw [dpA_len r] at w; exact w, fun H x => SqL.of (x _ _ h), fun i H v H' hi x y => by
    obtain ⟨d, h1, h2⟩ := dpA_at2 i r y.2
    exact ⟨d, h1, .inl ⟨y.1, h2⟩⟩⟩
theorem itOk_tup {B : Hp} {a : Addr} {xs : List V} {ds : List D} (h : SqT K B a xs) (r : RpAll K B xs ds) : ItOk K B (Itt K a) ds :=
  ⟨fun H => SqT K H a xs, YAt xs, by have w := walk_tup (K := K) (a := a) (xs := xs); rw [dpA_len r] at w; exact w, fun H x => ex_t x h, fun i H v H' hi x y => by
    obtain ⟨d, h1, h2⟩ := dpA_at2 i r y.2
    exact ⟨d, h1, .inl ⟨y.1, h2⟩⟩⟩
theorem itOk_str {B : Hp} {z : Str} : ItOk K B (Its z) (z.cps.toList.map fun c => PyData.str ⟨#[c]⟩) :=
  ⟨fun _ => True, _, by have w := walk_str (z := z); rw [← Array.length_toList, ← List.length_map (fun c => PyData.str ⟨#[c]⟩)] at w; exact w, fun _ _ => trivial, fun i H v H' hi x y => by
    obtain ⟨h1, c, h2, rfl⟩ := y
    refine ⟨.str ⟨#[c]⟩, ?_, .inl ⟨h1, .str _⟩⟩
    rw [List.getElem?_map, Array.getElem?_toList, h2]
    rfl⟩
theorem itOk_rangeC {B : Hp} {lo c : Int} {n : Nat} : ItOk K B (Itc lo c n) (rngD lo c n) :=
  ⟨fun _ => True, _, by have w := walk_rangeC (lo := lo) (c := c) (n := n); have e : n = (rngD lo c n).length := by unfold rngD; rw [List.length_map, List.length_range]
                        exact (congrArg (fun m => Walk (Itc lo c n) m _ _) e).mp w, fun _ _ => trivial, fun i H v H' hi x y => by
    obtain ⟨h1, rfl⟩ := y
    refine ⟨.int (lo + (i : Nat) * c), ?_, .inl ⟨h1, .int _⟩⟩
    unfold rngD at hi ⊢
    rw [List.length_map, List.length_range] at hi
    rw [List.getElem?_map, List.getElem?_range hi]
    rfl⟩
def rng1D (lo : Int) (n : Nat) : List D := (List.range n).map fun (k : Nat) => PyData.int (lo + (k : Int))
theorem itOk_range {B : Hp} {lo : Int} {n : Nat} : ItOk K B (Itr lo n) (rng1D lo n) :=
  ⟨fun _ => True, _, by have w := walk_range (lo := lo) (n := n); have e : n = (rng1D lo n).length := by unfold rng1D; rw [List.length_map, List.length_range]
                        exact (congrArg (fun m => Walk (Itr lo n) m _ _) e).mp w, fun _ _ => trivial, fun i H v H' hi x y => by
    obtain ⟨h1, rfl⟩ := y
    refine ⟨.int (lo + (i : Nat)), ?_, .inl ⟨h1, .int _⟩⟩
    unfold rng1D at hi ⊢
    rw [List.length_map, List.length_range] at hi
    rw [List.getElem?_map, List.getElem?_range hi]
    rfl⟩
theorem itOk_enum {B : Hp} {a : Addr} {xs : List V} {ds : List D} (h : B a = some (.lst xs)) (r : RpAll K B xs ds) : ItOk K B (Ite K a) (enuD ds) := by
  have hl : (enuD ds).length = xs.length := by
    unfold enuD
    rw [List.length_zipWith, List.length_range, Nat.min_self, dpA_len r]
  refine ⟨fun H => SqL K H a xs, _, by have w := walk_enum (K := K) (a := a) (xs := xs); rw [hl]; exact w, fun H x => SqL.of (x _ _ h), fun i H v H' hi x y => ?_⟩
  obtain ⟨T, u, w, rfl, hT, rfl, e1, e2⟩ := y
  cases e1
  obtain ⟨d, h1, h2⟩ := dpA_at2 i r e2
  rw [hl] at hi
  refine ⟨.tuple [.int (i : Int), d], ?_, .inr ⟨T, _, _, rfl, hT, rfl, rfl, .cons (.int _) (.cons h2 .nil)⟩⟩
  unfold enuD
  rw [List.getElem?_zipWith, h1, List.getElem?_range (by rw [← dpA_len r]; exact hi)]
theorem s_it {tg e : Expr} {f : ME} (h : PE X e (rE X.K f)) : PI X tg e (rIt X.K (iIt f)) :=
  (((pi_list h.v).or (pi_tup h.v)).or (pi_str h.v)).imp fun σ H R hq => by
    obtain ⟨F, B, ad, env, ds, env', Rl, e, q⟩ := hq
    unfold iIt at e
    (try unfold IF at e); split at e
    · cases e
    · rename_i d env1 e1
      (try unfold IF at e); split at e
      · rename_i ds' e2
        cases e
        cases d with
        | list xs =>
          cases e2
          refine .inl (.inl ⟨F, B, ad, env, _, env', Rl, e1, fun v B' H' x R' hd => ?_⟩)
          obtain ⟨a, us, rfl, h3, r1⟩ := dp_list hd
          exact ⟨a, rfl, ⟨us, SqL.of (R'.ex _ _ h3)⟩, q _ B' H' x R' (itOk_list h3 r1)⟩
        | tuple xs =>
          cases e2
          refine .inl (.inr ⟨F, B, ad, env, _, env', Rl, e1, fun v B' H' x R' hd => ?_⟩)
          obtain ⟨a, us, rfl, h3, r1⟩ := dp_tuple hd
          exact ⟨a, rfl, ⟨us, ex_t R'.ex h3⟩, q _ B' H' x R' (itOk_tup h3 r1)⟩
        | str z =>
          cases e2
          refine .inr ⟨F, B, ad, env, _, env', Rl, e1, fun v B' H' x R' hd => ?_⟩
          exact ⟨z, dp_str hd, q _ B' H' x R' itOk_str⟩
        | _ => cases e2
      · cases e
theorem iRng_some {es : MEs} {env env' : Env} {ds : List D} (h : iRng es env = some (ds, env')) : ∃ as, es env = some (as, env') ∧ rangeD as = some ds := by
  unfold iRng at h
  (try unfold IF at h); split at h
  · cases h
  · rename_i as env1 e1
    (try unfold IF at h); split at h
    · rename_i ds' e2
      cases h
      exact ⟨as, e1, e2⟩
    · cases h
theorem esCons_some {e : ME} {es : MEs} {env env' : Env} {ds : List D} (h : esCons e es env = some (ds, env')) : ∃ d env1 ds', fz (e env) = some (d, env1) ∧ es env1 = some (ds', env') ∧ ds = d :: ds' := by
  unfold esCons at h
  (try unfold IF at h); split at h
  · cases h
  · rename_i d env1 e1
    (try unfold IF at h); split at h
    · cases h
    · rename_i ds' env2 e2
      cases h
      exact ⟨d, env1, ds', e1, e2, rfl⟩
theorem s_rng1 {tg a : Expr} {p pos : Pos} {f : ME} (hg : Gl X "range") (hm : X.mg "range" = none) (ho : ordB a = true) (h : PE X a (rE X.K f)) : PI X tg (.Call (.Name "range" p) [a] [] pos) (rIt X.K (iRng (esCons f msNil.es))) :=
  (pi_range1 hg hm (s_cons ho h s_nil) (ord_star ho [])).imp fun σ H R hq => by
    obtain ⟨F, B, ad, env, ds, env', Rl, e, q⟩ := hq
    obtain ⟨as, e1, e3⟩ := iRng_some e
    refine ⟨F, B, ad, env, as, env', Rl, e1, fun vs B' H' x R' hd => ?_⟩
    obtain ⟨d, env1, ds', _, e4, rfl⟩ := esCons_some e1
    cases e4
    obtain ⟨v, rfl, hv⟩ := dpA1 hd
    unfold rangeD at e3
    (try unfold IF at e3); split at e3
    · rename_i j hj
      cases hj
      (try unfold IF at e3); split at e3
      · rename_i hz
        cases e3
        refine ⟨j, by rw [dp_int hv], by rw [p62]; exact hz.1, by rw [p62]; exact hz.2, q _ B' H' x R' ?_⟩
        have := itOk_range (K := X.K) (B := B') (lo := 0) (n := j.toNat)
        unfold rng1D at this
        simpa only [Int.zero_add] using this
      · cases e3
    · rename_i hj
      cases hj
    · rename_i hj
      cases hj
    · cases e3
theorem s_rng2 {tg a b : Expr} {p pos : Pos} {f g : ME} (hg : Gl X "range") (hm : X.mg "range" = none) (ho : ordB a = true) (ho2 : ordB b = true) (h : PE X a (rE X.K f)) (h2 : PE X b (rE X.K g)) :
    PI X tg (.Call (.Name "range" p) [a, b] [] pos) (rIt X.K (iRng (esCons f (esCons g msNil.es)))) :=
  (pi_range2 hg hm (s_cons ho h (s_cons ho2 h2 s_nil)) (by rw [ord_star ho, ord_star ho2]; rfl) (ord_star ho2 [])).imp fun σ H R hq => by
    obtain ⟨F, B, ad, env, ds, env', Rl, e, q⟩ := hq
    obtain ⟨as, e1, e3⟩ := iRng_some e
    refine ⟨F, B, ad, env, as, env', Rl, e1, fun vs B' H' x R' hd => ?_⟩
    obtain ⟨d, env1, ds', _, e4, rfl⟩ := esCons_some e1
    obtain ⟨d2, env2, ds2, _, e5, rfl⟩ := esCons_some e4
    cases e5
    obtain ⟨v, u, rfl, hv, hu⟩ := dpA2 hd
    unfold rangeD at e3
    (try unfold IF at e3); split at e3
    · rename_i hj
      cases hj
    · rename_i i j hj
      cases hj
      (try unfold IF at e3); split at e3
      · rename_i hz
        cases e3
        refine ⟨i, j, by rw [dp_int hv, dp_int hu], by rw [p62]; exact hz, q _ B' H' x R' ?_⟩
        exact itOk_range
      · cases e3
    · rename_i hj
      cases hj
    · cases e3
theorem s_rng3 {tg a b c : Expr} {p pos : Pos} {f g k : ME} (hg : Gl X "range") (hm : X.mg "range" = none) (ho : ordB a = true) (ho2 : ordB b = true) (ho3 : ordB c = true) (h : PE X a (rE X.K f)) (h2 : PE X b (rE X.K g)) (h3 : PE X c (rE X.K k)) :
    PI X tg (.Call (.Name "range" p) [a, b, c] [] pos) (rIt X.K (iRng (esCons f (esCons g (esCons k msNil.es))))) :=
  (pi_range3 hg hm (s_cons ho h (s_cons ho2 h2 (s_cons ho3 h3 s_nil))) (ord_star ho _) (ords_plain (by simp [ho2, ho3]))).imp fun σ H R hq => by
    obtain ⟨F, B, ad, env, ds, env', Rl, e, q⟩ := hq
    obtain ⟨as, e1, e3⟩ := iRng_some e
    refine ⟨F, B, ad, env, as, env', Rl, e1, fun vs B' H' x R' hd => ?_⟩
    obtain ⟨d, env1, ds', _, e4, rfl⟩ := esCons_some e1
    obtain ⟨d2, env2, ds2, _, e5, rfl⟩ := esCons_some e4
    obtain ⟨d3, env3, ds3, _, e6, rfl⟩ := esCons_some e5
    cases e6
    unfold rangeD at e3
    (try unfold IF at e3); split at e3
    · rename_i hj
      cases hj
    · rename_i hj
      cases hj
    · rename_i i j l hj
      cases hj
      cases hd with
      | cons d1 hd =>
        obtain ⟨u, w, rfl, d2, d3⟩ := dpA2 hd
        (try unfold IF at e3); split at e3
        · rename_i hz
          cases e3
          refine ⟨i, j, l, _, by rw [dp_int d1, dp_int d2, dp_int d3], ⟨hz.1, hz.2.1, hz.2.2.1, (Int.toNat_of_nonneg hz.2.2.2).symm⟩, q _ B' H' x R' itOk_rangeC⟩
        · cases e3
    · cases e3
theorem s_enu {e : Expr} {es : List Expr} {kk : Nat} {p pos tpos : Pos} {f : ME} (hg : Gl X "enumerate") (hm : X.mg "enumerate" = none) (ho : ordB e = true) (h : PE X e (rE X.K f)) :
    PI X (.Tuple es kk tpos) (.Call (.Name "enumerate" p) [e] [] pos) (rIt X.K (iEnu f)) :=
  (pi_enum hg hm (pa_cons h.v pa_nil (ord_star ho [])) (ord_star ho [])).imp fun σ H R hq => by
    obtain ⟨F, B, ad, env, ds, env', Rl, e, q⟩ := hq
    unfold iEnu at e
    (try unfold IF at e); split at e
    · rename_i xs env1 e1
      cases e
      refine ⟨F, B, ad, env, _, env', Rl, e1, fun v B' H' x R' hd => ?_⟩
      obtain ⟨a, us, rfl, h3, r1⟩ := dp_list hd
      exact ⟨a, us, rfl, SqL.of (R'.ex _ _ h3), q _ B' H' x R' (itOk_enum h3 r1)⟩
    · cases e
end
end Z
/-! Zx: statements. -/
namespace Z
open PySem PySem.Spec PyProof.Rows L2
open Evl (Ex ex_rd ex_l ex_t)
section
variable {K : PySem.W.Frag} {X : Cx}
theorem ord_sole {e t : Expr} {l : Nat} {env : PySem.Env} (h : cmpB e = false) : swapsWithSole [t] e l env = pure false := by
  rw [swapsWithSole]
  exact ord_sw h _ _
/-- what follows, by how it ended -/
def Go (K : PySem.W.Frag) (F : Fx) (D : Ends) (B' : Hp) (ad' : Nat → Addr) (env' : Env) (σ' : L2.St) (H' : Hp) (fl : Fl) : Prop := match fl with
  | .next => D.nx σ' H'
  | .brk => D.bk σ' H'
  | .cont => D.ct σ' H'
  | .ret r => ∀ v, ROk K F B' ad' env' H' v r → D.rt v H'
theorem rS_mk {f : MS} {D : Ends} {σ : L2.St} {H : Hp} {F : Fx} {B : Hp} {ad : Nat → Addr} {env env' : Env} {fl : Fl} (R : Rel K F B ad env σ H) (e : f env = some (fl, env'))
    (q : ∀ B' ad' σ' H', Ex B B' → Rel K F B' ad' env' σ' H' → Go K F D B' ad' env' σ' H' fl) : rS K f D σ H :=
  ⟨F, B, ad, env, fl, env', R, e, fun B' ad' σ' H' x R' => by
    have z := q B' ad' σ' H' x R'
    cases fl <;> exact z⟩
theorem rS_get {f : MS} {D : Ends} {σ : L2.St} {H : Hp} (h : rS K f D σ H) : ∃ F B ad env fl env', Rel K F B ad env σ H ∧ f env = some (fl, env') ∧ ∀ B' ad' σ' H', Ex B B' → Rel K F B' ad' env' σ' H' → Go K F D B' ad' env' σ' H' fl := by
  obtain ⟨F, B, ad, env, fl, env', R, e, q⟩ := h
  refine ⟨F, B, ad, env, fl, env', R, e, fun B' ad' σ' H' x R' => ?_⟩
  have z := q B' ad' σ' H' x R'
  cases fl <;> exact z
theorem s_asg1 {i : Nat} {f : ME} {D : Ends} {σ : L2.St} {H : Hp} (h : rS K (sAsg i f) D σ H) : rE K f σ H fun v H1 => D.nx (σ.set i (some v)) H1 := by
  obtain ⟨F, B, ad, env, fl, env', R, e, q⟩ := rS_get h
  unfold sAsg at e
  (try unfold IF at e); split at e
  · cases e
  · rename_i r env1 e1
    (try unfold IF at e); split at e
    · rename_i env2 e2
      cases e
      refine ⟨F, B, ad, env, r, env1, R, e1, fun v B' H' x R' ok => ?_⟩
      obtain ⟨ad', R2⟩ := R'.put ok e2
      exact q B' ad' _ H' x R2
    · cases e
theorem s_asg {i : Nat} {x : Str} {e : Expr} {f : ME} {pos pos' : Pos} (hN : X.N.Nodup) (hi : X.N[i]? = some x) (hx : Loc X.env.scope x) (hf : X.fn x = true ∨ X.env.scope.names.lookup x = some .local) (hc : cmpB e = false) (h : PE X e (rE X.K f)) :
    PS X (.Assign [.Name x pos'] e pos) (rS X.K (sAsg i f)) :=
  (ps_set hN hi hx h (ord_sw hc _ _) hf).imp fun D σ H h => s_asg1 h
theorem s_expr {e : Expr} {f : ME} {pos : Pos} (hc : cmpB e = false) (h : PE X e (rE X.K f)) : PS X (.Expr e pos) (rS X.K (sExpr f)) :=
  (ps_expr h.v (ord_sw hc _ _)).imp fun D σ H h => by
    obtain ⟨F, B, ad, env, fl, env', R, e, q⟩ := rS_get h
    unfold sExpr at e
    (try unfold IF at e); split at e
    · cases e
    · rename_i d env1 e1
      cases e
      exact ⟨F, B, ad, env, d, env', R, e1, fun v B' H' x R' _ => q B' ad σ H' x R'⟩
theorem s_ret {e : Expr} {f : ME} {pos : Pos} (h : PE X e (rE X.K f)) : PS X (.Return (some e) pos) (rS X.K (sRet f)) :=
  (ps_ret h).imp fun D σ H h => by
    obtain ⟨F, B, ad, env, fl, env', R, e, q⟩ := rS_get h
    unfold sRet at e
    (try unfold IF at e); split at e
    · cases e
    · rename_i r env1 e1
      cases e
      exact ⟨F, B, ad, env, r, env', R, e1, fun v B' H' x R' ok => q B' ad σ H' x R' v ok⟩
theorem retO {D : Ends} {σ : L2.St} {H : Hp} {F : Fx} {B : Hp} {ad : Nat → Addr} {env : Env} {i : Nat} {o : O} (h1 : env[i]? = some (.own o)) (hl : o.IsL) (R : Rel X.K F B ad env σ H)
    (q : ∀ B' ad' σ' H', Ex B B' → Rel X.K F B' ad' (env.set i .no) σ' H' → Go X.K F D B' ad' (env.set i .no) σ' H' (.ret (.own o))) : tVar i σ H D.rt := by
  have hi : i < env.length := (List.getElem?_eq_some_iff.mp h1).1
  obtain ⟨h2, h3, ho, h4, h5⟩ := R.own i _ (ownAt_own h1)
  refine ⟨_, h2, q B ad σ H (Ex.refl B) ?_ _ (.own h4 (OLk.of h5 hl) h3 (R.nw i _ h1) fun j o' g z => ?_)⟩
  · refine R.weak (by rw [List.length_set]; exact R.len) (fun j s e hs => ?_) (fun j o' e => ?_) fun j o' e => .inl ?_
    · by_cases hj : j = i
      · subst hj
        rw [List.getElem?_set_self hi] at e
        cases e
        exact absurd rfl hs
      · rw [List.getElem?_set_ne (Ne.symm hj)] at e
        exact ⟨e, rfl⟩
    · rw [List.getElem?_set_ne fun z => ?_]
      · exact e
      · subst z
        rw [h1] at e
        cases e
    · rw [List.getElem?_set_ne fun z => ?_]
      · exact e
      · subst z
        rw [h1] at e
        cases e
  · by_cases hj : j = i
    · subst hj
      rw [ownAt_set hi] at g
      cases g
    · rw [ownAt_set_ne (Ne.symm hj)] at g
      exact hj (R.inj j i o' _ g (ownAt_own h1) z)
theorem s_retV {i : Nat} {x : Str} {p pos : Pos} (h : PE X (.Name x p) (tVar i)) : PS X (.Return (some (.Name x p)) pos) (rS X.K (sRetV i)) :=
  (ps_ret h).imp fun D σ H h => by
    obtain ⟨F, B, ad, env, fl, env', R, e, q⟩ := rS_get h
    unfold sRetV at e
    (try unfold IF at e); split at e
    · cases e
    · rename_i r env1 e1
      cases e
      unfold rdR at e1
      (try unfold IF at e1); split at e1
      · rename_i d h1
        cases e1
        obtain ⟨v, h2, h3⟩ := R.imm i _ h1
        exact ⟨v, h2, q B ad σ H (Ex.refl B) R v (.imm h3)⟩
      · rename_i xs h1
        cases e1
        exact retO h1 (.inl ⟨_, rfl⟩) R q
      · rename_i cn fs h1
        cases e1
        exact retO h1 (.inr ⟨_, _, rfl⟩) R q
      · cases e1
theorem s_retN {pos : Pos} : PS X (.Return none pos) (rS X.K fun env => some (.ret (.imm .none), env)) := ps_retN.imp fun D σ H h => by
  obtain ⟨F, B, ad, env, fl, env', R, e, q⟩ := rS_get h
  cases e
  exact q B ad σ H (Ex.refl B) R _ (.imm .non)
theorem s_brk {pos : Pos} : PS X (.Break pos) (rS X.K fun env => some (.brk, env)) := ps_break.imp fun D σ H h => by
  obtain ⟨F, B, ad, env, fl, env', R, e, q⟩ := rS_get h
  cases e
  exact q B ad σ H (Ex.refl B) R
theorem s_cont {pos : Pos} : PS X (.Continue pos) (rS X.K fun env => some (.cont, env)) := ps_continue.imp fun D σ H h => by
  obtain ⟨F, B, ad, env, fl, env', R, e, q⟩ := rS_get h
  cases e
  exact q B ad σ H (Ex.refl B) R
theorem s_pass {pos : Pos} : PS X (.Pass pos) (rS X.K fun env => some (.next, env)) := ps_pass.imp fun D σ H h => by
  obtain ⟨F, B, ad, env, fl, env', R, e, q⟩ := rS_get h
  cases e
  exact q B ad σ H (Ex.refl B) R
theorem s_bad {st : Stmt} : PS X st (rS X.K fun _ => none) := ps_never.imp fun D σ H h => by
  obtain ⟨F, B, ad, env, fl, env', R, e, q⟩ := rS_get h
  cases e
theorem s_badB {st : List Stmt} {f : MS} : PSs X st (rS X.K (sSeq (fun _ => none) f)) := pss_never.imp fun D σ H h => by
  obtain ⟨F, B, ad, env, fl, env', R, e, q⟩ := rS_get h
  cases e
theorem s_snil : PSs X [] (rS X.K fun env => some (.next, env)) := pss_nil.imp fun D σ H h => by
  obtain ⟨F, B, ad, env, fl, env', R, e, q⟩ := rS_get h
  cases e
  exact q B ad σ H (Ex.refl B) R
theorem s_scons {st : Stmt} {sts : List Stmt} {f g : MS} (h1 : PS X st (rS X.K f)) (h2 : PSs X sts (rS X.K g)) : PSs X (st :: sts) (rS X.K (sSeq f g)) :=
  (pss_cons h1 h2).imp fun D σ H h => by
    obtain ⟨F, B, ad, env, fl, env', R, e, q⟩ := rS_get h
    unfold sSeq at e
    cases hf : f env with
    | none => rw [hf] at e; cases e
    | some p =>
      obtain ⟨fl1, env1⟩ := p
      rw [hf] at e
      refine rS_mk R hf fun B' ad' σ' H' x R' => ?_
      cases fl1 with
      | next => exact rS_mk R' e fun B2 ad2 σ2 H2 x2 R2 => q B2 ad2 σ2 H2 (x.trans x2) R2
      | brk => cases e; exact q B' ad' σ' H' x R'
      | cont => cases e; exact q B' ad' σ' H' x R'
      | ret r => cases e; exact q B' ad' σ' H' x R'
theorem s_if {c : Expr} {a b : List Stmt} {t : MT} {f g : MS} {pos : Pos} (hc : PT X c (rT X.K t)) (ha : PSs X a (rS X.K f)) (hb : PSs X b (rS X.K g)) : PS X (.If c a b pos) (rS X.K (sIf t f g)) :=
  (ps_if hc ha hb).imp fun D σ H h => by
    obtain ⟨F, B, ad, env, fl, env', R, e, q⟩ := rS_get h
    unfold sIf at e
    (try unfold IF at e); split at e
    · rename_i env1 e1
      exact ⟨F, B, ad, env, true, env1, R, e1, fun B' H' x R' => rS_mk R' e fun B2 ad2 σ2 H2 x2 R2 => q B2 ad2 σ2 H2 (x.trans x2) R2⟩
    · rename_i env1 e1
      exact ⟨F, B, ad, env, false, env1, R, e1, fun B' H' x R' => rS_mk R' e fun B2 ad2 σ2 H2 x2 R2 => q B2 ad2 σ2 H2 (x.trans x2) R2⟩
    · cases e
/-! ### a slot's own object is changed -/
theorem sub_assign {o k : Expr} {p2 : Pos} {env : PySem.Env} (h : ordB k = true) (v : Value) : assign (.Subscript o k p2) env v = (do
    let ov ← holding [v] (eval o env)
    let iv ← holding [v, ov] (eval k env)
    standAt p2
    holding [v, ov, iv] (setItem ov iv v)
    release [v, ov, iv] []) := by
  cases k <;> first | rfl | cases h
theorem s_setix {i : Nat} {x : Str} {e k : Expr} {f g : ME} {p p2 pos : Pos} (hc : cmpB e = false) (hok : ordB k = true) (hv : PE X (.Name x p) (tVar i)) (he : PE X e (rE X.K f)) (hk : PE X k (rE X.K g)) :
    PS X (.Assign [.Subscript (.Name x p) k p2] e pos) (rS X.K (sSetix i g f)) :=
  (ps_asg he.v (pg_sub hv hk.v set_list (sub_assign hok)) (ord_sole hc) (by rfl)).imp fun D σ H h => by
    obtain ⟨F, B, ad, env, fl, env', R, e, q⟩ := rS_get h
    unfold sSetix at e
    (try unfold IF at e); split at e
    · cases e
    · rename_i d env1 e1
      (try unfold IF at e); split at e
      · cases e
      · rename_i o0 h0
        (try unfold IF at e); split at e
        · rename_i n env2 e2
          (try unfold IF at e); split at e
          · rename_i xs h1
            (try unfold IF at e); split at e
            · rename_i j hj
              cases e
              refine ⟨F, B, ad, env, _, env1, R, e1, fun v B1 H1 x1 R1 hd => ⟨_, (R1.own i _ h0).1, F, B1, ad, env1, _, env2, R1, e2, fun u B2 H2 x2 R2 hk => ?_⟩⟩
              obtain ⟨h3, h4, ho, h5, h6⟩ := R2.own i _ h1
              cases h6 with
              | @lst vs _ h6 =>
                exact ⟨_, vs, n, j, rfl, dp_int hk, h5, by rw [dpA_len h6]; exact hj, q B2 ad σ _ (x1.trans x2) (R2.setO h1 (.lst (dpA_set j h6 (dpM x2 _ hd))))⟩
            · cases e
          · cases e
        · cases e
theorem s_app {i : Nat} {x : Str} {e : Expr} {f : ME} {p ap cp pos : Pos} (hl : (ap.endLine == cp.line) = true) (ho : ordB e = true) (hv : PE X (.Name x p) (tVar i)) (he : PE X e (rE X.K f)) :
    PS X (.Expr (.Call (.Attribute (.Name x p) "append" ap) [e] [] cp) pos) (rS X.K (sApp i f)) :=
  (ps_expr (pe_bm PySem.F.plainAttrs_list PySem.F.slot_list_append PySem.F.type_list_append mt_append hv (pa_cons he.v pa_nil (ord_star ho [])) (by rfl) (by rw [ord_star ho]; rfl) hl (ord_star ho []) rfl) (by rfl)).imp fun D σ H h => by
    obtain ⟨F, B, ad, env, fl, env', R, e, q⟩ := rS_get h
    unfold sApp at e
    split at e
    · rename_i xs0 h0
      (try unfold IF at e); split at e
      · cases e
      · rename_i d env1 e1
        (try unfold IF at e); split at e
        · rename_i xs h1
          (try unfold IF at e); split at e
          · rename_i hz
            cases e
            obtain ⟨h3, h4, ho, h5, h6⟩ := R.own i _ h0
            cases h6 with
            | lst h6 =>
              refine ⟨_, h3, .inl ⟨rfl, _, SqL.of h5⟩, F, B, ad, env, _, env1, R, e1, fun v B1 H1 x1 R1 hd => ?_⟩
              obtain ⟨h3', h4', ho', h5', h6'⟩ := R1.own i _ h1
              cases h6' with
              | @lst vs _ h6' =>
                exact ⟨_, vs, v, rfl, rfl, h5', by rw [dpA_len h6']; exact hz, q B1 ad σ _ x1 (R1.setO h1 (.lst (dpA_app h6' (.cons hd .nil))))⟩
          · cases e
        · cases e
    · cases e
theorem s_ext {i : Nat} {x : Str} {e : Expr} {f : ME} {p ap cp pos : Pos} (hl : (ap.endLine == cp.line) = true) (ho : ordB e = true) (hv : PE X (.Name x p) (tVar i)) (he : PE X e (rE X.K f)) :
    PS X (.Expr (.Call (.Attribute (.Name x p) "extend" ap) [e] [] cp) pos) (rS X.K (sExt i f)) :=
  (ps_expr (pe_bm PySem.F.plainAttrs_list PySem.F.slot_list_extend PySem.F.type_list_extend mt_extA hv (pa_cons he.v pa_nil (ord_star ho [])) (by rfl) (by rw [ord_star ho]; rfl) hl (ord_star ho []) rfl) (by rfl)).imp fun D σ H h => by
    obtain ⟨F, B, ad, env, fl, env', R, e, q⟩ := rS_get h
    unfold sExt at e
    split at e
    · rename_i xs0 h0
      (try unfold IF at e); split at e
      · rename_i dd env1 e1
        (try unfold IF at e); split at e
        · cases e
        · rename_i ys hys
          (try unfold IF at e); split at e
          · rename_i xs h1
            (try unfold IF at e); split at e
            · rename_i hz
              cases e
              obtain ⟨h3, h4, ho, h5, h6⟩ := R.own i _ h0
              cases h6 with
              | lst h6 =>
                refine ⟨_, h3, .inl ⟨rfl, _, SqL.of h5⟩, F, B, ad, env, _, env1, R, e1, fun v B1 H1 x1 R1 hd => ?_⟩
                obtain ⟨h3', h4', ho', h5', h6'⟩ := R1.own i _ h1
                cases h6' with
                | @lst vs _ h6' =>
                  cases dd with
                  | list zs =>
                    cases hys
                    obtain ⟨b, us, rfl, h7, h8⟩ := dp_list hd
                    exact .inl ⟨_, b, vs, us, rfl, rfl, h5', R1.ex _ _ h7, by rw [dpA_len h6', dpA_len h8]; exact hz, q B1 ad σ _ x1 (R1.setO h1 (.lst (dpA_app h6' h8)))⟩
                  | tuple zs =>
                    cases hys
                    obtain ⟨b, us, rfl, h7, h8⟩ := dp_tuple hd
                    exact .inr ⟨_, b, vs, us, rfl, rfl, h5', ex_t R1.ex h7, by rw [dpA_len h6', dpA_len h8]; exact hz, q B1 ad σ _ x1 (R1.setO h1 (.lst (dpA_app h6' h8)))⟩
                  | _ => cases hys
            · cases e
          · cases e
      · cases e
    · cases e
/-! ### while -/
theorem whileS_some {c : MT} {b : MS} {env env' : Env} {fl : Fl} (h : whileS c b env = some (fl, env')) : ∃ n, whileN c b n env = some (fl, env') := by
  unfold whileS at h
  (try unfold IF at h); split at h
  · rename_i hh
    have h2 := Classical.choose_spec (Classical.choose_spec hh)
    rw [Option.some.inj h] at h2
    exact ⟨_, h2⟩
  · cases h
theorem s_while {c : Expr} {body : List Stmt} {t : MT} {f : MS} {pos : Pos} (hp : PassesOwn (model X.prog X.w) X.A X.env X.xe) (hc : PT X c (rT X.K t)) (hb : PSs X body (rS X.K f)) : PS X (.While c body [] pos) (rS X.K (whileS t f)) :=
  (ps_while hp hc hb).imp fun D σ H h => by
    obtain ⟨F, B0, ad0, env0, fl, envE, R0, e0, q⟩ := rS_get h
    obtain ⟨n, e0⟩ := whileS_some e0
    refine ⟨fun m σ H => ∃ B ad env, Ex B0 B ∧ Rel X.K F B ad env σ H ∧ whileN t f m env = some (fl, envE), ⟨n, B0, ad0, env0, Ex.refl B0, R0, e0⟩, ?_⟩
    rintro m σ H ⟨B, ad, env, x0, R, e⟩
    cases m with
    | zero => cases e
    | succ m =>
      unfold whileN at e
      (try unfold IF at e); split at e
      · cases e
      · rename_i env1 e1
        cases e
        exact ⟨F, B, ad, env, false, envE, R, e1, fun B' H' x R' => q B' ad σ H' (x0.trans x) R'⟩
      · rename_i env1 e1
        refine ⟨F, B, ad, env, true, env1, R, e1, fun B' H' x R' => ?_⟩
        refine ⟨fun σ H => ∃ B ad env, Ex B0 B ∧ Rel X.K F B ad env σ H ∧ whileN t f m env = some (fl, envE), fun σ' H' z => ⟨m, Nat.lt_succ_self m, z⟩, ?_⟩
        (try unfold IF at e); split at e
        · rename_i env2 e2
          exact rS_mk R' e2 fun B2 ad2 σ2 H2 x2 R2 => ⟨B2, ad2, env2, (x0.trans x).trans x2, R2, e⟩
        · rename_i env2 e2
          exact rS_mk R' e2 fun B2 ad2 σ2 H2 x2 R2 => ⟨B2, ad2, env2, (x0.trans x).trans x2, R2, e⟩
        · rename_i env2 e2
          cases e
          exact rS_mk R' e2 fun B2 ad2 σ2 H2 x2 R2 => q B2 ad2 σ2 H2 ((x0.trans x).trans x2) R2
        · rename_i r env2 e2
          cases e
          exact rS_mk R' e2 fun B2 ad2 σ2 H2 x2 R2 => q B2 ad2 σ2 H2 ((x0.trans x).trans x2) R2
        · cases e
/-! ### targets, for -/
/-- a target takes a datum -/
def Tgt (K : PySem.W.Frag) (g : TG) (put : Env → D → Option Env) : Prop := ∀ (F : Fx) (B : Hp) (ad : Nat → Addr) (env env1 : Env) (σ : L2.St) (H : Hp) (v : V) (d : D) (Q : L2.St → Hp → Prop), Rel K F B ad env σ H → Rp K B v d → put env d = some env1 →
  (∀ ad' σ', Rel K F B ad' env1 σ' H → Q σ' H) → g v σ H Q
theorem tgt_name {i : Nat} : Tgt K (gName i) fun env d => put1 env i (.imm d) := fun F B ad env env1 σ H v d Q R hd hp q => by
  obtain ⟨ad', R'⟩ := R.put (.imm hd) hp
  exact q ad' _ R'
def gNames : List Nat → TGs
  | [] => gNil
  | i :: is => gCons (gName i) (gNames is)
theorem tgts {F : Fx} {B : Hp} {H : Hp} : ∀ (is : List Nat) {ds : List D} {vs : List V} {ad : Nat → Addr} {env env1 : Env} {σ : L2.St} {Q : L2.St → Hp → Prop}, Rel K F B ad env σ H → RpAll K B vs ds → putT env is ds = some env1 →
    (∀ ad' σ', Rel K F B ad' env1 σ' H → Q σ' H) → gNames is vs σ H Q
  | [], [], _, ad, env, env1, σ, Q, R, h, e, q => by
    cases h
    cases e
    exact ⟨rfl, q ad σ R⟩
  | [], d :: ds, _, _, _, _, _, _, _, _, e, _ => by cases e
  | i :: is, [], _, _, _, _, _, _, _, _, e, _ => by cases e
  | i :: is, d :: ds, _, ad, env, env1, σ, Q, R, h, e, q => by
    cases h with
    | cons h1 h2 =>
      rename_i v vs
      unfold putT at e
      refine ⟨v, vs, rfl, ?_⟩
      have hp : ∃ env2, put1 env i (.imm d) = some env2 ∧ putT env2 is ds = some env1 := by
        unfold put1
        (try unfold IF at e); split at e
        · (try unfold IF at e); split at e
          · cases e
          · rename_i hs
            rw [if_neg hs]
            exact ⟨_, rfl, e⟩
        · cases e
      obtain ⟨env2, hp1, hp2⟩ := hp
      obtain ⟨ad', R'⟩ := R.put (.imm h1) hp1
      exact tgts is R' h2 hp2 q
theorem putT_len : ∀ (is : List Nat) {ds : List D} {env env1 : Env}, putT env is ds = some env1 → ds.length = is.length
  | [], [], _, _, _ => rfl
  | [], d :: ds, _, _, e => by cases e
  | i :: is, [], _, _, e => by cases e
  | i :: is, d :: ds, env, env1, e => by
    unfold putT at e
    (try unfold IF at e); split at e
    · (try unfold IF at e); split at e
      · cases e
      · rw [List.length_cons, List.length_cons, putT_len is e]
    · cases e
theorem tgt_tup {is : List Nat} : Tgt K (gTup K is.length (gNames is)) fun env d => match tupOf d with | some xs => putT env is xs | none => none := fun F B ad env env1 σ H v d Q R hd hp q => by
  have hp : (match tupOf d with | some xs => putT env is xs | none => none) = some env1 := hp
  (try unfold IF at hp); split at hp
  · rename_i xs hx
    cases d with
    | tuple ds =>
      cases hx
      obtain ⟨a, us, rfl, h3, r1⟩ := dp_tuple hd
      exact ⟨a, us, rfl, ex_t R.ex h3, by rw [dpA_len r1, putT_len is hp], tgts is R r1 hp q⟩
    | _ => cases hx
  · cases hp
theorem s_forG {tg iter : Expr} {body : List Stmt} {g : TG} {put : Env → D → Option Env} {src : MEs} {f : MS} {pos : Pos} (hp : PassesOwn (model X.prog X.w) X.A X.env X.xe) (hc : X.calm = true) (hi : PI X tg iter (rIt X.K src)) (hg : PG X tg g) (ht : Tgt X.K g put)
    (hb : PSs X body (rS X.K f)) (hs : ∀ x, foldedSetIterable iter X.env x = pure x) : PS X (.For tg iter body [] pos) (rS X.K fun env => match src env with
      | none => none
      | some (ds, env) => forL f put ds env) :=
  (ps_for hp hc hi hg hb hs).imp fun D σ H h => by
    obtain ⟨F, B0, ad0, env0, fl, envE, R0, e0, q⟩ := rS_get h
    (try unfold IF at e0); split at e0
    · cases e0
    · rename_i ds env1 e1
      refine ⟨F, B0, ad0, env0, ds, env1, R0, e1, fun J B1 H1 x1 R1 hJ => ?_⟩
      obtain ⟨G, Y, w, hG, hY⟩ := hJ
      refine for_it w (fun i σ H => ∃ B ad env, Ex B1 B ∧ Rel X.K F B ad env σ H ∧ forL f put (ds.drop i) env = some (fl, envE)) ⟨B1, ad0, env1, Ex.refl B1, R1, e0⟩ (fun i σ H _ ⟨B, ad, env, x, R, _⟩ => hG H (x.trans R.ex)) ?_ ?_
      · rintro i v σ H H' hi ⟨B, ad, env, x, R, e⟩ y
        obtain ⟨d, hd, hv⟩ := hY i H v H' hi (x.trans R.ex) y
        have hdrop : ds.drop i = d :: ds.drop (i + 1) := by
          obtain ⟨h1, h2⟩ := List.getElem?_eq_some_iff.mp hd
          rw [List.drop_eq_getElem_cons h1, h2]
        rw [hdrop] at e
        unfold forL at e
        have hv' : ∃ B', Ex B B' ∧ Rel X.K F B' ad env σ H' ∧ Rp X.K B' v d := by
          rcases hv with ⟨rfl, hv⟩ | ⟨T, us, es, rfl, hT, rfl, rfl, hv⟩
          · exact ⟨B, Ex.refl B, R, dpM x _ hv⟩
          · obtain ⟨B', x', R', ok⟩ := newT R hT (dpAM x _ hv)
            cases ok with
            | imm ok => exact ⟨B', x', R', ok⟩
        obtain ⟨B', x', R', hd'⟩ := hv'
        (try unfold IF at e); split at e
        · cases e
        · rename_i env2 e2
          refine ht F B' ad env env2 σ H' v d _ R' hd' e2 fun ad' σ' R2 => ?_
          (try unfold IF at e); split at e
          · rename_i env3 e3
            exact rS_mk R2 e3 fun B3 ad3 σ3 H3 x3 R3 => ⟨B3, ad3, env3, (x.trans x').trans x3, R3, e⟩
          · rename_i env3 e3
            exact rS_mk R2 e3 fun B3 ad3 σ3 H3 x3 R3 => ⟨B3, ad3, env3, (x.trans x').trans x3, R3, e⟩
          · rename_i env3 e3
            cases e
            exact rS_mk R2 e3 fun B3 ad3 σ3 H3 x3 R3 => q B3 ad3 σ3 H3 (x1.trans ((x.trans x').trans x3)) R3
          · rename_i r env3 e3
            cases e
            exact rS_mk R2 e3 fun B3 ad3 σ3 H3 x3 R3 => q B3 ad3 σ3 H3 (x1.trans ((x.trans x').trans x3)) R3
          · cases e
      · rintro σ H ⟨B, ad, env, x, R, e⟩
        rw [List.drop_length] at e
        cases e
        exact q B ad σ H (x1.trans x) R
theorem s_asgT {is : List Nat} {es : List Expr} {kk : Nat} {tpos : Pos} {e : Expr} {f : ME} {pos : Pos} (hg : PG X (.Tuple es kk tpos) (gTup X.K is.length (gNames is))) (hc : cmpB e = false) (hw : swappedStores [.Tuple es kk tpos] e X.env = pure none) (h : PE X e (rE X.K f)) : PS X (.Assign [.Tuple es kk tpos] e pos) (rS X.K (sAsgT is f)) :=
  (ps_asg h.v hg (ord_sole hc) hw).imp fun D σ H h => by
    obtain ⟨F, B, ad, env, fl, env', R, e, q⟩ := rS_get h
    unfold sAsgT at e
    (try unfold IF at e); split at e
    · rename_i ds env1 e1
      (try unfold IF at e); split at e
      · rename_i env2 e2
        cases e
        refine ⟨F, B, ad, env, _, env1, R, e1, fun v B' H' x R' hd => ?_⟩
        refine tgt_tup F B' ad env1 env' σ H' v (.tuple ds) _ R' hd e2 fun ad' σ' R2 => ?_
        exact q B' ad' σ' H' x R2
      · cases e
    · cases e
end
end Z
/-! Zh: methods of texts, turned round, a list of pairs of a number and a list. -/
namespace Z
open PySem PySem.Spec PyProof.Rows L2
open Evl (Ex ex_rd ex_l ex_t)
section
variable {X : Cx} {σ : L2.St} {H : Hp}
/-! ### methods of a text -/
theorem strs_dp {K : PySem.W.Frag} {B : Hp} : ∀ {ds : List D} {vs : List V} {bs : List Str}, RpAll K B vs ds → strsD ds = some bs → vs = bs.map V.str
  | [], _, bs, h, e => by cases h; cases e; rfl
  | d :: ds, _, bs, h, e => by
    cases h with
    | cons h1 h2 =>
      cases d with
      | str b =>
        change (strsD ds).map (b :: ·) = some bs at e
        cases q : strsD ds with
        | none => rw [q] at e; cases e
        | some r =>
          rw [q] at e
          cases e
          rw [strs_dp h2 q, dp_str h1]
          rfl
      | _ => cases e
theorem cMe_some {m : Me} {a b : ME} {env env' : Env} {r : Res} (h : cMe m a b env = some (r, env')) : ∃ x env1 y, fz (a env) = some (x, env1) ∧ fz (b env1) = some (y, env') ∧ meD m x y = some r := by
  unfold cMe at h
  split at h
  · cases h
  · rename_i x env1 e1
    split at h
    · cases h
    · rename_i y env2 e2
      split at h
      · cases h
      · rename_i r' e3
        cases h
        exact ⟨x, env1, y, e1, e2, e3⟩
theorem s_me1 {m : Me} {ea eb : Expr} {f g : ME} {ap cp : Pos} {r : V → List V → Hp → VK → Prop} (hp : PE X (.Call (.Attribute ea m.nm ap) [eb] [] cp) (tM1 r (rV X.K f) (rV X.K g)))
    (k : ∀ (σ : L2.St) F B ad env' v u x y res H2 Q, Rel X.K F B ad env' σ H2 → Rp X.K B v x → Rp X.K B u y → meD m x y = some res → Kq X.K F B ad env' σ res Q → r v [u] H2 Q) :
    PE X (.Call (.Attribute ea m.nm ap) [eb] [] cp) (rE X.K (cMe m f g)) :=
  hp.imp fun σ H Q h => by
    obtain ⟨F, B, ad, env, res, env', R, e, q⟩ := h
    obtain ⟨x, env1, y, e1, e2, e3⟩ := cMe_some e
    refine ⟨F, B, ad, env, x, env1, R, e1, fun v B1 H1 x1 R1 d1 => ⟨?_, F, B1, ad, env1, y, env', R1, e2, fun u B2 H2 x2 R2 d2 => ?_⟩⟩
    · cases m with
      | index =>
        cases x with
        | str a => exact ⟨a, dp_str d1⟩
        | _ => cases y <;> cases e3
      | join =>
        cases x with
        | str a => exact ⟨a, dp_str d1⟩
        | _ => cases y <;> cases e3
    · exact k σ F B2 ad env' v u x y res H2 Q R2 (dpM x2 _ d1) d2 e3 fun w B' H' x' R' ok => q w B' H' ((x1.trans x2).trans x') R' ok
theorem s_me (m : Me) {ea eb : Expr} {f g : ME} {ap cp : Pos} (hl : (ap.endLine == cp.line) = true) (hoa : ordB ea = true) (hob : ordB eb = true) (ha : PE X ea (rE X.K f)) (hb : PE X eb (rE X.K g)) : PE X (.Call (.Attribute ea m.nm ap) [eb] [] cp) (rE X.K (cMe m f g)) := by
  cases m with
  | index =>
    refine s_me1 (m := .index) (pe_m1 PySem.F.slot_str_index PySem.F.type_str_index mt_sindex ha.v hb.v (ord_star hob []) (ord_att hoa _) hl) fun σ F B ad env' v u x y res H2 Q R d1 d2 e q => ?_
    cases x with
    | str a =>
      cases y with
      | str b =>
        change (match Builtin.Str.occurrences a b 0 a.length 1 with | i :: _ => some (Res.imm (.int (i : Nat))) | [] => none) = some res at e
        split at e
        · rename_i i rest ho
          cases e
          exact ⟨a, b, i, rest, dp_str d1, by rw [dp_str d2], ho, q _ B _ (Ex.refl B) R (.imm (.int _))⟩
        · cases e
      | _ => cases e
    | _ => cases y <;> cases e
  | join =>
    refine s_me1 (m := .join) (pe_m1 PySem.F.slot_str_join PySem.F.type_str_join mt_join ha.v hb.v (ord_star hob []) (ord_att hoa _) hl) fun σ F B ad env' v u x y res H2 Q R d1 d2 e q => ?_
    cases x with
    | str a =>
      cases y with
      | list zs =>
        change (match strsD zs with | some ys => IF ((ys.map (·.length)).sum + ys.length * a.length ≤ 16777216) (some (Res.imm (.str (Txt.join a ys)))) | none => none) = some res at e
        split at e
        · rename_i ys hy
          unfold IF at e
          split at e
          · rename_i hz
            cases e
            obtain ⟨p, us, rfl, h1, r1⟩ := dp_list d2
            rw [strs_dp r1 hy] at h1
            exact ⟨a, p, ys, dp_str d1, rfl, .inl (SqL.of (R.ex _ _ h1)), hz, q _ B _ (Ex.refl B) R (.imm (.str _))⟩
          · cases e
        · cases e
      | _ => cases e
    | _ => cases y <;> cases e
/-! ### turned round -/
theorem _root_.L2.PE.or {e : Expr} {t t' : TE} (h : PE X e t) (h' : PE X e t') : PE X e (fun σ H Q => t σ H Q ∨ t' σ H Q) := ⟨fun pins s σ H Q I q => q.elim (h.run pins s σ H Q I) (h'.run pins s σ H Q I)⟩
section
variable {prog : Program} {w : World} {A : Around} {E : Value → Shared → Prop} {s : Shared}
theorem back_adjust (n : Nat) : Builtin.Slice.sliceAdjust none none (-1) (n : Int) = ((n : Int) - 1, -1) := by
  unfold Builtin.Slice.sliceAdjust
  have h1 : (-1 : Int) < 0 := by omega
  simp only [h1, if_true]
theorem back_places (n : Nat) : Builtin.Slice.slicePlaces ((n : Int) - 1) (-1) (-1) = n := by
  unfold Builtin.Slice.slicePlaces
  have h1 : ¬ ((-1 : Int) > 0) := by omega
  simp only [h1, if_false]
  by_cases h : (n : Int) - 1 > -1
  · rw [if_pos h]
    have : ((n : Int) - 1 - -1 - 1) / (- -1) = (n : Int) - 1 := by
      rw [show (- -1 : Int) = 1 by decide, Int.ediv_one]
      omega
    rw [this]
    omega
  · rw [if_neg h]
    omega
theorem back_applied {sl : Addr} {vl vu vs : Value} {n : Nat} {Q : Int × Int × Nat → Shared → Prop} (hs : s.heap.IsSliceOf sl vl vu vs) (pl : IsPart vl none) (pu : IsPart vu none) (ps : IsPart vs (some (-1)))
    (h : Q ((n : Int) - 1, -1, n) s) : wpAny (model prog w) A (Builtin.Slice.sliceApplied (.ref sl) (pure (n : Int))) Q E s := by
  obtain ⟨o1, o2, o3, o4⟩ := id hs
  unfold Builtin.Slice.sliceApplied Builtin.Slice.sliceFields
  refine wpAny_bind (wpAny_bind (wpAny_field o2 o4 (x := vl) rfl (wpAny_bind (wpAny_field o2 o4 (x := vu) rfl (wpAny_bind (wpAny_field o2 o4 (x := vs) rfl (wpAny_pure ?_)))))))
  refine wpAny_bind (HT.slicePart_ ps ?_)
  show wpAny _ _ (if ((-1 : Int) == 0) = true then _ else _) _ _ s
  rw [if_neg (by decide)]
  refine wpAny_bind (HT.slicePart_ pl (wpAny_bind (HT.slicePart_ pu (wpAny_bind (wpAny_pure ?_)))))
  show wpAny _ _ (match Builtin.Slice.sliceAdjust none none (-1) (n : Int) with | (lo, hi) => pure (lo, (-1 : Int), Builtin.Slice.slicePlaces lo hi (-1))) _ _ s
  rw [back_adjust]
  show wpAny _ _ (pure ((n : Int) - 1, (-1 : Int), Builtin.Slice.slicePlaces ((n : Int) - 1) (-1) (-1))) _ _ s
  rw [back_places]
  exact wpAny_pure h
theorem filterMap_all {α β : Type} {f : α → Option β} {g : α → β} : ∀ {l : List α}, (∀ m ∈ l, f m = some (g m)) → l.filterMap f = l.map g
  | [], _ => rfl
  | m :: l, h => by
    rw [List.filterMap_cons_some (h m List.mem_cons_self), List.map_cons, filterMap_all fun m hm => h m (List.mem_cons_of_mem _ hm)]
theorem back_pick (xs : Array Value) : ((List.range xs.size).filterMap fun (m : Nat) => xs[((xs.size : Int) - 1 + (m : Int) * -1).toNat]?).toArray = xs.toList.reverse.toArray := by
  congr 1
  apply List.ext_getElem?
  intro i
  have key : (List.range xs.size).filterMap (fun (m : Nat) => xs[((xs.size : Int) - 1 + (m : Int) * -1).toNat]?) = (List.range xs.size).map (fun (m : Nat) => (xs[xs.size - 1 - m]?).getD .none) := by
    refine filterMap_all fun m hm => ?_
    have hm := List.mem_range.mp hm
    have e : ((xs.size : Int) - 1 + (m : Int) * -1).toNat = xs.size - 1 - m := by omega
    rw [e]
    have hlt : xs.size - 1 - m < xs.size := by omega
    show xs[xs.size - 1 - m]? = some ((xs[xs.size - 1 - m]?).getD .none)
    rw [Array.getElem?_eq_getElem hlt]
    rfl
  rw [key, List.getElem?_map]
  by_cases hi : i < xs.size
  · rw [List.getElem?_range hi, List.getElem?_reverse (by simpa using hi)]
    show some ((xs[xs.size - 1 - i]?).getD .none) = _
    have hlt : xs.size - 1 - i < xs.size := by omega
    rw [Array.getElem?_eq_getElem hlt]
    simp
  · rw [List.getElem?_eq_none (by simpa using hi), List.getElem?_eq_none (by simpa using hi)]
    rfl
theorem back_tup {t sl : Addr} {items : Array Value} {vl vu vs : Value} {Q : Value → Shared → Prop} (ht : IsTup s.heap t items) (hs : s.heap.IsSliceOf sl vl vu vs) (pl : IsPart vl none) (pu : IsPart vu none) (ps : IsPart vs (some (-1)))
    (h : Q (.ref s.heap.objs.size) { s with heap := s.heap.push { cls := .type "tuple", data := .seq items.toList.reverse.toArray } }) (hz : items.size ≤ sizeLine) : wpAny (model prog w) A (getItem (.ref t) (.ref sl)) Q E s := by
  have hz' : sizeOk (.seq items.toList.reverse.toArray) := by
    show items.toList.reverse.toArray.size ≤ sizeLine
    rw [List.size_toArray, List.length_reverse, Array.length_toList]
    exact hz
  have hT : s.TypeIs (.ref sl) "slice" := by
    obtain ⟨o1, o2, o3, o4⟩ := id hs
    exact ⟨o1, o2, o3⟩
  unfold getItem
  try with_reducible refine wpAny_holding ?_
  try refine wpAny_bind (wpAny_pure ?_)
  refine wpAny_bind (wpAny_sequenceKey ht.typeIs (by decide) ?_)
  refine wpAny_bind (wpAny_callSpecial?_slot (name := Str.ofString "__getitem__") ht.typeIs PyProof.Rows.slot_tuple_getitem (wpAny_call_entry PyProof.Rows.slot_tuple_getitem ht.typeIs entry_tuple_getitem ?_ (args_tuple_getitem _ _)))
  show wpAny _ _ (Builtin.Tuple.tupleItemsOf (.ref t) >>= _) _ _ s
  refine wpAny_bind (tupleItemsOf_ ht (wpAny_bind (wpAny_typeOf hT ?_)))
  rw [if_pos (show (Value.type "slice" == Value.type "slice") = true by decide)]
  refine wpAny_bind (back_applied hs pl pu ps ?_)
  have hno : ¬ ((((items.size : Int) - 1) == 0 && (-1 : Int) == 1 && items.size == items.size) = true) := by simp
  show wpAny _ _ (if (((items.size : Int) - 1) == 0 && (-1 : Int) == 1 && items.size == items.size) = true then _ else _) _ _ s
  rw [if_neg hno, back_pick]
  first
    | exact wpAny_bind (m := Builtin.Tuple.tupleExact _) (wpAny_newObj_type (wpAny_pure ⟨_, rfl, wpAny_pure h⟩) hz')
    | exact wpAny_bind (m := Builtin.Tuple.tupleExact _) (wpAny_newObj_type (wpAny_bind (wpAny_pure (wpAny_pure ⟨_, rfl, wpAny_pure h⟩))) hz')
    | exact wpAny_bind (wpAny_bind (m := Builtin.Tuple.tupleExact _) (wpAny_newObj_type (wpAny_pure (wpAny_pure ⟨_, rfl, wpAny_pure h⟩)) hz'))
    | exact wpAny_bind (wpAny_bind (m := Builtin.Tuple.tupleExact _) (wpAny_newObj_type (wpAny_pure ⟨_, rfl, wpAny_pure h⟩) hz'))
end
def tRevT (K : PySem.W.Frag) (te : TE) : TE := fun σ H Q => te σ H fun x H1 => ∃ a xs, x = .ref a ∧ SqT K H1 a xs ∧ ∀ p, H1 p = none → Q (.ref p) (upd H1 p (.tup xs.reverse))
theorem pe_revT {e : Expr} {te : TE} {k : Nat} {p1 p2 p3 pos : Pos} (he : PE X e te) : PE X (.Subscript e (.Slice none none (some (.UnaryOp .USub (.Constant (.int 1) k p1) p2)) p3) pos) (tRevT X.K te) := by
  refine ⟨fun pins s σ H Q I hq => ?_⟩
  refine Subscript_ (thn (he.run pins s σ H _ I hq) fun v z1 ⟨x, G1, J1, r1, b1⟩ => ?_)
  obtain ⟨a, xs, rfl, hx, q⟩ := b1
  cases r1
  have hm : PO X (some (.UnaryOp .USub (.Constant (.int 1) k p1) p2)) (tPart (tUn (rU fun i => .int (-i)) (tC (.int 1)))) := po_some (pe_un un_neg pe_int)
  refine wpAny_Slice (thn (po_none.run pins z1 σ G1 (fun o G => o = none ∧ G = G1) J1 ⟨rfl, rfl⟩) fun vl z2 ⟨l, G2, J2, pl, el, e2⟩ => ?_)
  subst el e2
  refine thn (po_none.run pins z2 σ G2 (fun o G => o = none ∧ G = G2) J2 ⟨rfl, rfl⟩) fun vu z3 ⟨u, G3, J3, pu, eu, e3⟩ => ?_
  subst eu e3
  refine thn (hm.run pins z3 σ G3 (fun o G => o = some (-1) ∧ G = G3) J3 ⟨1, rfl, -1, rfl, rfl, rfl⟩) fun vs z4 ⟨o, G4, J4, ps, eo, e4⟩ => ?_
  subst eo e4
  have J5 : Inv X pins σ G4 { z4 with heap := z4.heap.push { cls := .type "slice", data := .fields #[vl, vu, vs] } } := J4.kept (t' := z4.toks) fun _ _ => Heap.get?_push_of_some _
  obtain ⟨its, r, ht, hz⟩ := J5.tuple hx
  have hlen := r.length
  show wpAny (model X.prog X.w) X.A (subscriptTail e (.Slice none none (some (.UnaryOp .USub (.Constant (.int 1) k p1) p2)) p3) (.ref a) (.ref z4.heap.objs.size)) (EP X pins σ Q) X.xe _
  refine tail_any (ops := [.ref a, .ref z4.heap.objs.size]) ht.typeIs PyProof.Rows.slot_tuple_getitem.lookup ?_ (by with_unfolding_all rfl)
  refine back_tup ht (Heap.IsSliceOf.new _ vl vu vs) pl pu ps ?_ (by rw [List.size_toArray]; omega)
  refine ⟨.ref _, _, J5.laid (t' := z4.toks) (o := .tup xs.reverse) (fun _ _ => Heap.get?_push_of_some _) (Nat.le_refl _) ?_, rfl, q _ (J5.hok.fresh (Nat.le_refl _))⟩
  exact ⟨by rw [List.length_reverse]; exact hz, _, r.reverse, IsTup.new _ _⟩
theorem dpA_rev {K : PySem.W.Frag} {B : Hp} : ∀ {ds : List D} {vs : List V}, RpAll K B vs ds → RpAll K B vs.reverse ds.reverse
  | [], _, h => by cases h; exact .nil
  | d :: ds, _, h => by
    cases h with
    | cons h1 h2 =>
      rw [List.reverse_cons, List.reverse_cons]
      exact dpA_app (dpA_rev h2) (.cons h1 .nil)
theorem s_rev {e : Expr} {f : ME} {k : Nat} {p1 p2 p3 pos : Pos} (he : PE X e (rE X.K f)) : PE X (.Subscript e (.Slice none none (some (.UnaryOp .USub (.Constant (.int 1) k p1) p2)) p3) pos) (rE X.K (cRev f)) :=
  ((pe_revL he.v).or (pe_revT he.v)).imp fun σ H Q h => by
    obtain ⟨F, B, ad, env, res, env', R, e, q⟩ := h
    unfold cRev at e
    split at e
    · cases e
    · rename_i x env1 e1
      split at e
      · cases e
      · rename_i r e2
        cases e
        cases x with
        | list xs =>
          cases e2
          refine .inl ⟨F, B, ad, env, _, env', R, e1, fun v B1 H1 x1 R1 d1 => ?_⟩
          obtain ⟨a, us, rfl, h1, r1⟩ := dp_list d1
          refine ⟨a, us, rfl, SqL.of (R1.ex _ _ h1), fun p hp => ?_⟩
          obtain ⟨R', ok⟩ := newL R1 hp (dpA_rev r1)
          exact q _ B1 _ x1 R' ok
        | tuple xs =>
          cases e2
          refine .inr ⟨F, B, ad, env, _, env', R, e1, fun v B1 H1 x1 R1 d1 => ?_⟩
          obtain ⟨a, us, rfl, h1, r1⟩ := dp_tuple d1
          refine ⟨a, us, rfl, ex_t R1.ex h1, fun p hp => ?_⟩
          obtain ⟨B', x', R', ok⟩ := newT R1 hp (dpA_rev r1)
          exact q _ B' _ (x1.trans x') R' ok
        | _ => cases e2
/-! ### a list of pairs of a number and a list -/
/-- a slot whose name the text does not have bears anything -/
theorem _root_.L2.Inv.ghost {pins : List (Addr × Obj)} {s : Shared} (I : Inv X pins σ H s) {i : Nat} (hv : ∀ x, X.N[i]? = some x → ¬ Vis X.env.scope x) (v : Option V) : Inv X pins (σ.set i v) H s :=
  { I with
    loc := by
      obtain ⟨m, h1, h2⟩ := I.loc
      refine ⟨m, h1, fun j x u hx hu hvis => ?_⟩
      by_cases q : j = i
      · subst q
        exact absurd hvis (hv x hx)
      · rw [List.getElem?_set_ne (Ne.symm q)] at hu
        exact h2 j x u hx hu hvis
    len := by rw [List.length_set]; exact I.len }
theorem ps_ghost {b : Nat} {st : Stmt} {t : TS} (hg : ∀ j x, b ≤ j → X.N[j]? = some x → ¬ Vis X.env.scope x) (h : PS X st t) :
    PS X st (fun D σ H => t ⟨fun σ' H' => ∃ j v, b ≤ j ∧ D.nx (σ'.set j v) H', D.rt, D.bk, D.ct⟩ σ H) :=
  ⟨fun pins s σ H D I q => thn (h.run pins s σ H _ I q) fun fl s' hs => by
    cases fl with
    | next =>
      obtain ⟨σ', H', I', j, v, hj, hd⟩ := hs
      exact ⟨_, H', I'.ghost (fun x hx => hg j x hj hx) v, hd⟩
    | brk => exact hs
    | cont => exact hs
    | ret u => exact hs⟩
theorem atI_last {α : Type} {xs : List α} {y : α} (h : xs[xs.length - 1]? = some y) : atI xs (-1) = some y := by
  have hl := (List.getElem?_eq_some_iff.mp h).1
  unfold atI ixN
  rw [if_neg (by omega), if_pos (by omega)]
  have : ((-1 : Int) + (xs.length : Int)).toNat = xs.length - 1 := by omega
  show xs[((-1 : Int) + (xs.length : Int)).toNat]? = some y
  rw [this]
  exact h
/-- what is known of the last pair -/
theorem stk_last {K : PySem.W.Frag} {F : Fx} {B : Hp} {ad : Nat → Addr} {env : Env} (R : Rel K F B ad env σ H) {i b : Nat} {ns : List Int} {n : Int} (h : env[i]? = some (.own (.stk b ns))) (hn : ns[ns.length - 1]? = some n) :
    σ[i]? = some (some (.ref (ad i))) ∧ ∃ vs t, H (ad i) = some (.lst vs) ∧ vs.length = ns.length ∧ vs[vs.length - 1]? = some (.ref t) ∧ B t = some (.tup [.int n, .ref (ad (b + (ns.length - 1)))]) := by
  obtain ⟨ho, h1, vs, rfl, h2, h3⟩ := R.stk i b ns (ownAt_own h)
  obtain ⟨_, t, h4, h5⟩ := h3 _ n hn
  exact ⟨(R.own i _ (ownAt_own h)).1, vs, t, h1, h2, by rw [h2]; exact h4, h5⟩
theorem topAt_some {env : Env} {i b : Nat} {ns : List Int} {xs : List D} (h : topAt env i = some (b, ns, xs)) : env[i]? = some (.own (.stk b ns)) ∧ (∃ n, ns[ns.length - 1]? = some n) ∧ env[b + (ns.length - 1)]? = some (.hid (.lst xs)) ∧ 0 < ns.length := by
  unfold topAt at h
  split at h
  · rename_i b' ns' h1
    split at h
    · cases h
    · rename_i n ms
      split at h
      · rename_i ys h2
        cases h
        refine ⟨h1, ?_, ?_, by rw [List.length_cons]; omega⟩
        · have : ms.length + 1 - 1 < (n :: ms).length := by rw [List.length_cons]; omega
          exact ⟨_, List.getElem?_eq_getElem this⟩
        · exact h2
      · cases h
  · cases h
abbrev pairs (i : Nat) : TE := tOp (rIxA X.K) (tVar i) (tUn (rU fun i => .int (-i)) (tC (.int 1)))
theorem s_topN {i : Nat} {x : Str} {p p1 p2 p3 p4 pos : Pos} {k k' : Nat} (h : PE X (.Name x p) (tVar i)) : PE X (.Subscript (.Subscript (.Name x p) (.UnaryOp .USub (.Constant (.int 1) k p1) p2) p3) (.Constant (.int 0) k' p4) pos) (rE X.K (cTopN i)) :=
  (pe_ix ((ix_list.or ix_tup).or ix_str) (pe_ix ((ix_list.or ix_tup).or ix_str) h (pe_un un_neg pe_int) (ord_ix rfl)) (pe_int) (ord_ix rfl)).imp fun σ H Q hq => by
    obtain ⟨F, B, ad, env, r, env', R, e, q⟩ := hq
    unfold cTopN at e
    split at e
    · rename_i b ns h1
      split at e
      · rename_i n h2
        cases e
        obtain ⟨h3, vs, t, h4, h5, h6, h7⟩ := stk_last R h1 h2
        exact ⟨_, h3, 1, rfl, .inl (.inl ⟨_, vs, -1, _, rfl, rfl, SqL.of h4, atI_last h6, .inl (.inr ⟨t, _, 0, .int n, rfl, rfl, SqT.of (R.ex _ _ h7), rfl, q _ B _ (Ex.refl B) R (.imm (.int _))⟩)⟩)⟩
      · cases e
    · cases e
theorem s_topLen {i : Nat} {x : Str} {p0 p p1 p2 p3 p4 p5 pos : Pos} {k k' : Nat} (hg : Gl X "len") (hm : X.mg "len" = none) (h : PE X (.Name x p) (tVar i)) :
    PE X (.Call (.Name "len" p0) [.Subscript (.Subscript (.Name x p) (.UnaryOp .USub (.Constant (.int 1) k p1) p2) p3) (.Constant (.int 1) k' p4) p5] [] pos) (rE X.K (cTopLen i)) :=
  (pe_callB (call_len_seq.or call_len_str) hg hm PySem.boot_len (pa_cons (pe_ix ((ix_list.or ix_tup).or ix_str) (pe_ix ((ix_list.or ix_tup).or ix_str) h (pe_un un_neg pe_int) (ord_ix rfl)) (pe_int) (ord_ix rfl)) pa_nil (ord_star rfl [])) (by decide) (by decide) (ord_star rfl []) rfl).imp fun σ H Q hq => by
    obtain ⟨F, B, ad, env, r, env', R, e, q⟩ := hq
    unfold cTopLen at e
    split at e
    · rename_i b ns xs h0
      cases e
      obtain ⟨h1, ⟨n, h2⟩, h8, _⟩ := topAt_some h0
      obtain ⟨h3, vs, t, h4, h5, h6, h7⟩ := stk_last R h1 h2
      obtain ⟨_, _, ho, h9, h10⟩ := R.own _ _ (ownAt_hid h8)
      cases h10 with
      | @lst us _ h10 =>
        refine ⟨_, h3, 1, rfl, .inl (.inl ⟨_, vs, -1, _, rfl, rfl, SqL.of h4, atI_last h6, .inl (.inr ⟨t, _, 1, _, rfl, rfl, SqT.of (R.ex _ _ h7), rfl, ?_⟩)⟩)⟩
        refine .inl ⟨_, us, rfl, .inl (SqL.of h9), ?_⟩
        rw [dpA_len h10]
        exact q _ B _ (Ex.refl B) R (.imm (.int _))
    · cases e
theorem s_topApp {i j : Nat} {x y : Str} {p p1 p2 p3 p4 p5 py ap cp pos : Pos} {k k' : Nat} (hl : (ap.endLine == cp.line) = true) (h : PE X (.Name x p) (tVar i)) (hy : PE X (.Name y py) (tVar j)) :
    PS X (.Expr (.Call (.Attribute (.Subscript (.Subscript (.Name x p) (.UnaryOp .USub (.Constant (.int 1) k p1) p2) p3) (.Constant (.int 1) k' p4) p5) "append" ap) [.Name y py] [] cp) pos) (rS X.K (sTopApp i j)) :=
  (ps_expr (pe_bm PySem.F.plainAttrs_list PySem.F.slot_list_append PySem.F.type_list_append mt_append (pe_ix ((ix_list.or ix_tup).or ix_str) (pe_ix ((ix_list.or ix_tup).or ix_str) h (pe_un un_neg pe_int) (ord_ix rfl)) (pe_int) (ord_ix rfl))
    (pa_cons hy pa_nil (ord_star rfl [])) (by rfl) (by rw [ord_star rfl]; rfl) hl (ord_star rfl []) rfl) (by rfl)).imp fun D σ H hq => by
    obtain ⟨F, B, ad, env, fl, env', R, e, q⟩ := rS_get hq
    unfold sTopApp at e
    split at e
    · rename_i b ns xs h0
      split at e
      · rename_i d hd
        unfold IF at e
        split at e
        · rename_i hz
          cases e
          obtain ⟨h1, ⟨n, h2⟩, h8, _⟩ := topAt_some h0
          obtain ⟨h3, vs, t, h4, h5, h6, h7⟩ := stk_last R h1 h2
          obtain ⟨_, _, ho, h9, h10⟩ := R.own _ _ (ownAt_hid h8)
          obtain ⟨v, h11, h12⟩ := R.imm j d hd
          cases h10 with
          | @lst us _ h10 =>
            have hp : putO env (b + (ns.length - 1)) (.lst (xs ++ [d])) = env.set (b + (ns.length - 1)) (.hid (.lst (xs ++ [d]))) := by
              unfold putO
              rw [h8]
            refine ⟨_, h3, 1, rfl, .inl (.inl ⟨_, vs, -1, _, rfl, rfl, SqL.of h4, atI_last h6, .inl (.inr ⟨t, _, 1, _, rfl, rfl, SqT.of (R.ex _ _ h7), rfl, ?_⟩)⟩)⟩
            refine ⟨.inl ⟨rfl, _, SqL.of h9⟩, v, h11, _, us, v, rfl, rfl, h9, by rw [dpA_len h10]; exact hz, ?_⟩
            have R' := R.setO (ownAt_hid h8) (.lst (dpA_app h10 (.cons h12 .nil)))
            rw [hp] at R'
            exact q B ad σ _ (Ex.refl B) R'
        · cases e
      · cases e
    · cases e
theorem s_mk {i b : Nat} {x : Str} {p pos pos' : Pos} (hN : X.N.Nodup) (hi : X.N[i]? = some x) (hx : Loc X.env.scope x) (hf : X.fn x = true ∨ X.env.scope.names.lookup x = some .local) : PS X (.Assign [.Name x pos'] (.List [] p) pos) (rS X.K (sMk i b)) :=
  (ps_set hN hi hx (pe_lst pa_nil) (ord_sw rfl _ _) hf).imp fun D σ H h => by
    obtain ⟨F, B, ad, env, fl, env', R, e, q⟩ := rS_get h
    unfold sMk at e
    split at e
    · rename_i env1 e1
      cases e
      refine ⟨Nat.zero_le _, fun p hp => ?_⟩
      have R' := (R.alloc hp (.lst [])).putN (p := p) (o := .stk b []) upd_same .stk (R.noB hp) (R.fresh hp) (fun j o' g => R.ne hp g) (fun b' ns' z => by
        cases z
        exact ⟨[], rfl, rfl, fun k n e => by simp at e⟩) e1
      exact q B _ _ _ (Ex.refl B) R'
    · cases e
theorem s_push {i b : Nat} {x : Str} {e : Expr} {f : ME} {p p1 p2 ap cp pos : Pos} {k : Nat} (hg : ∀ j x, b ≤ j → X.N[j]? = some x → ¬ Vis X.env.scope x) (hl : (ap.endLine == cp.line) = true) (ho : ordB e = true) (hv : PE X (.Name x p) (tVar i)) (he : PE X e (rE X.K f)) (hrecv : ∀ env n env1, fz (f env) = some (.int n, env1) → ∀ b ns, env1[i]? = some (.own (.stk b ns)) → ∃ ns0, ownAt env i = some (.stk b ns0)) :
    PS X (.Expr (.Call (.Attribute (.Name x p) "append" ap) [.Tuple [e, .List [] p1] k p2] [] cp) pos) (rS X.K (sPush i b f)) :=
  (ps_ghost hg (ps_expr (pe_bm PySem.F.plainAttrs_list PySem.F.slot_list_append PySem.F.type_list_append mt_append hv (pa_cons (pe_tup (pa_cons he.v (pa_cons (pe_lst pa_nil) pa_nil (ord_star rfl [])) (ord_star ho _))) pa_nil (ord_star rfl [])) (by rfl) (by rw [ord_star rfl]; rfl) hl (ord_star rfl []) rfl) (by rfl))).imp fun D σ H h => by
    obtain ⟨F, B, ad, env, fl, env', R, e, q⟩ := rS_get h
    unfold sPush at e
    split at e
    · rename_i n env1 e1
      split at e
      · rename_i b' ns h1
        split at e
        · rename_i h2
          unfold IF at e
          split at e
          · rename_i hz
            obtain ⟨rfl, hz⟩ := hz
            cases e
            -- the receiver, as it stands ahead of the argument
            obtain ⟨ns0, h3⟩ := hrecv env n env1 e1 b ns h1
            obtain ⟨h4, _, ho0, h5, h6⟩ := R.own i _ h3
            obtain ⟨vs0, rfl⟩ : ∃ vs0, ho0 = .lst vs0 := by
              cases h6
              exact ⟨_, rfl⟩
            refine ⟨_, h4, .inl ⟨rfl, _, SqL.of h5⟩, F, B, ad, env, _, env1, R, e1, fun v B1 H1 x1 R1 hd => ⟨by show (0 : Nat) ≤ sizeLine; omega, fun p hp => ⟨by show (2 : Nat) ≤ sizeLine; decide, fun q' hq' => ?_⟩⟩⟩
            rw [dp_int hd]
            have hpq : p ≠ q' := fun z => by
              rw [z, upd_same] at hq'
              cases hq'
            have hq1 : H1 q' = none := by
              rw [upd_ne (Ne.symm hpq)] at hq'
              exact hq'
            -- the inner list, the pair
            have R2 := R1.alloc hp (.lst [])
            obtain ⟨R3, x3⟩ := R2.grow hq' (.tup [.int n, .ref p])
            have hb3 : upd B1 q' (.tup [V.int n, .ref p]) p = none := by
              rw [upd_ne hpq]
              exact R1.noB hp
            have hH3 : upd (upd H1 p (.lst [])) q' (.tup [V.int n, .ref p]) p = some (.lst []) := by
              rw [upd_ne hpq, upd_same]
            have hlt : b + ns.length < env1.length := (List.getElem?_eq_some_iff.mp h2).1
            have R4 := R3.putS (i := b + ns.length) (p := p) (ho := .lst []) (o := .lst []) (s := .hid (.lst [])) hH3 (.lst .nil) hb3 (R1.fresh hp) (fun j o' g => R1.ne hp g) (fun _ _ z => nomatch z) hlt
              (fun o z => by rw [h2] at z; cases z) (fun o z => by rw [h2] at z; cases z) (.inr rfl)
            have hne : i ≠ b + ns.length := fun z => by
              rw [← z, h1] at h2
              cases h2
            have h1' : (env1.set (b + ns.length) (.hid (.lst [])))[i]? = some (.own (.stk b ns)) := by
              rw [List.getElem?_set_ne (Ne.symm hne)]
              exact h1
            obtain ⟨ho1, g1, vs, rfl, g2, g3⟩ := R1.stk i b ns (ownAt_own h1)
            have hai : upA ad (b + ns.length) p i = ad i := if_neg hne
            have hap : upA ad (b + ns.length) p (b + ns.length) = p := if_pos rfl
            have R5 := R4.setO (o' := .stk b (ns ++ [n])) (ho' := .lst (vs ++ [.ref q'])) (ownAt_own h1') .stk (.inr fun q z => by rw [h1'] at z; cases z) (fun b' ns' z => by
              cases z
              refine ⟨_, rfl, by rw [List.length_append, List.length_append, g2]; rfl, fun k m e => ?_⟩
              by_cases hk : k < ns.length
              · rw [List.getElem?_append_left hk] at e
                obtain ⟨⟨o, k1⟩, t, k2, k3⟩ := g3 k m e
                have hkne : b + k ≠ b + ns.length := by omega
                refine ⟨⟨o, by rw [List.getElem?_set_ne (Ne.symm hkne)]; exact k1⟩, t, by rw [List.getElem?_append_left (by omega)]; exact k2, ?_⟩
                have : upA ad (b + ns.length) p (b + k) = ad (b + k) := if_neg hkne
                rw [this]
                exact x3 _ _ k3
              · have hk2 : k = ns.length := by
                  have := (List.getElem?_eq_some_iff.mp e).1
                  rw [List.length_append, List.length_singleton] at this
                  omega
                subst hk2
                rw [List.getElem?_append_right (Nat.le_refl _), Nat.sub_self] at e
                cases e
                refine ⟨⟨_, List.getElem?_set_self hlt⟩, q', by rw [List.getElem?_append_right (by omega), g2, Nat.sub_self]; rfl, ?_⟩
                rw [hap, upd_same])
            rw [hai] at R5
            have hput : putO (env1.set (b + ns.length) (.hid (.lst []))) i (.stk b (ns ++ [n])) = (env1.set i (.own (.stk b (ns ++ [n])))).set (b + ns.length) (.hid (.lst [])) := by
              unfold putO
              rw [h1']
              exact List.set_comm _ _ (Ne.symm hne)
            rw [hput] at R5
            have g1' : upd (upd H1 p (.lst [])) q' (.tup [V.int n, .ref p]) (ad i) = some (.lst vs) := by
              rw [upd_ne (ne_of_none g1 hq1), upd_ne (ne_of_none g1 hp)]
              exact g1
            exact ⟨_, vs, _, rfl, rfl, g1', by rw [g2]; exact hz, b + ns.length, _, Nat.le_add_right _ _, q _ _ _ _ (x1.trans x3) R5⟩
          · cases e
        · cases e
      · cases e
    · cases e
theorem recv_v {i j : Nat} (env : Env) (n : Int) (env1 : Env) (h : fz (cV j env) = some (.int n, env1)) (b : Nat) (ns : List Int) (h1 : env1[i]? = some (.own (.stk b ns))) : ∃ ns0, ownAt env i = some (.stk b ns0) := by
  unfold cV at h
  split at h
  · rename_i d env2 e2
    cases h
    unfold rdV at e2
    split at e2
    · cases e2
      exact ⟨_, ownAt_own h1⟩
    · rename_i xs e3
      cases e2
    · cases e2
  · cases h
theorem s_popT {i : Nat} {x : Str} {p0 p p4 p5 ap cp pos : Pos} {k' : Nat} (hg : Gl X "tuple") (hm : X.mg "tuple" = none) (hl : (ap.endLine == cp.line) = true) (h : PE X (.Name x p) (tVar i)) :
    PE X (.Call (.Name "tuple" p0) [.Subscript (.Call (.Attribute (.Name x p) "pop" ap) [] [] cp) (.Constant (.int 1) k' p4) p5] [] pos) (rE X.K (cPopT i)) :=
  (pe_callTy call_tuple_of hg hm (by decide +kernel) (pa_cons (pe_ix ((ix_list.or ix_tup).or ix_str) (pe_bm0 PySem.F.plainAttrs_list PySem.F.slot_list_pop PySem.F.type_list_pop mt_pop h (by rfl) hl) pe_int (ord_ix rfl)) pa_nil (ord_star rfl [])) (by decide) (by decide) (ord_star rfl []) rfl).imp fun σ H Q hq => by
    obtain ⟨F, B, ad, env, r, env', R, e, q⟩ := hq
    unfold cPopT at e
    split at e
    · rename_i b ns xs h0
      unfold IF at e
      split at e
      · rename_i hc
        obtain ⟨hone, hz⟩ := hc
        cases e
        obtain ⟨h1, ⟨n, h2⟩, h8, hpos⟩ := topAt_some h0
        obtain ⟨h3, vs, t, h4, h5, h6, h7⟩ := stk_last R h1 h2
        obtain ⟨_, hb9, ho, h9, h10⟩ := R.own _ _ (ownAt_hid h8)
        obtain ⟨ho1, g1, vs', rfl, g2, g3⟩ := R.stk i b ns (ownAt_own h1)
        rw [h4] at g1
        cases g1
        have hne : i ≠ b + (ns.length - 1) := fun z => by
          rw [← z, h1] at h8
          cases h8
        cases h10 with
        | @lst us _ h10 =>
          have hput : putO env i (.stk b ns.dropLast) = env.set i (.own (.stk b ns.dropLast)) := by
            unfold putO
            rw [h1]
          have R1 := R.setO (o' := .stk b ns.dropLast) (ho' := .lst vs.dropLast) (ownAt_own h1) .stk (.inr fun q z => by rw [h1] at z; cases z) (fun b' ns' z => by
            cases z
            refine ⟨_, rfl, by rw [List.length_dropLast, List.length_dropLast, g2], fun k m e => ?_⟩
            have hk : k < ns.length - 1 := by
              have := (List.getElem?_eq_some_iff.mp e).1
              rw [List.length_dropLast] at this
              exact this
            rw [List.dropLast_eq_take, List.getElem?_take_of_lt hk] at e
            obtain ⟨k1, t', k2, k3⟩ := g3 k m e
            exact ⟨k1, t', by rw [List.dropLast_eq_take, List.getElem?_take_of_lt (by omega)]; exact k2, k3⟩)
          rw [hput] at R1
          have h8' : (env.set i (.own (.stk b ns.dropLast)))[b + (ns.length - 1)]? = some (.hid (.lst xs)) := by
            rw [List.getElem?_set_ne hne]
            exact h8
          have hj : b + (ns.length - 1) < env.length := (List.getElem?_eq_some_iff.mp h8).1
          have hi : i < env.length := (List.getElem?_eq_some_iff.mp h1).1
          refine ⟨_, h3, .inl ⟨rfl, _, SqL.of h4⟩, _, vs, .ref t, rfl, rfl, h4, h6, ?_⟩
          have hne2 : ad (b + (ns.length - 1)) ≠ ad i := fun z => hne (R.inj _ _ _ _ (ownAt_own h1) (ownAt_hid h8) z.symm)
          refine .inl (.inr ⟨t, _, 1, _, rfl, rfl, SqT.of (R1.ex _ _ h7), rfl, ?_⟩)
          refine ⟨_, us, rfl, .inl ⟨SqL.of (by rw [upd_ne hne2]; exact h9), fun p hp => ?_⟩⟩
          -- the hidden slot is emptied
          have R2 : Rel X.K F B ad ((env.set i (.own (.stk b ns.dropLast))).set (b + (ns.length - 1)) .no) σ (upd H (ad i) (.lst vs.dropLast)) := by
            refine R1.weak (by rw [List.length_set]; exact R1.len) (fun j s e hs => ?_) (fun j o e => ?_) fun j o e => ?_
            · by_cases w : j = b + (ns.length - 1)
              · subst w
                rw [List.getElem?_set_self (by rw [List.length_set]; exact hj)] at e
                cases e
                exact absurd rfl hs
              · rw [List.getElem?_set_ne (Ne.symm w)] at e
                exact ⟨e, rfl⟩
            · rw [List.getElem?_set_ne fun w => ?_]
              · exact e
              · subst w
                rw [h8'] at e
                cases e
            · by_cases w : j = b + (ns.length - 1)
              · right
                intro i2 b2 ns2 e2 k hk
                have : i2 = i := by
                  by_cases w2 : i2 = i
                  · exact w2
                  · rw [ownAt_set_ne (Ne.symm w2)] at e2
                    exact hone i2 b2 ns2 e2
                subst this
                rw [ownAt_set hi] at e2
                cases e2
                rw [List.length_dropLast] at hk
                omega
              · left
                rw [List.getElem?_set_ne (Ne.symm w)]
                exact e
          obtain ⟨B', x', R', ok⟩ := newT R2 hp h10
          exact q _ B' _ x' R' ok
      · cases e
    · cases e
end
end Z
/-! Zy: comprehensions, calls. -/
namespace Z
open PySem PySem.Spec PyProof.Rows L2
open Evl (Ex ex_rd ex_l ex_t)
section
variable {K : PySem.W.Frag} {X : Cx} {σ : L2.St} {H : Hp}
theorem isIo_no {env : Env} {j : Nat} (h : isIo env j = false) (o : O) : env[j]? ≠ some (.io o) := fun e => by
  unfold isIo at h
  rw [e] at h
  cases h
theorem isIo_noh {env : Env} {j : Nat} (h : isIo env j = false) (o : O) : env[j]? ≠ some (.hid o) := fun e => by
  unfold isIo at h
  rw [e] at h
  cases h
theorem wipe1 (σ : L2.St) (j : Nat) : wipe σ [j] = σ.set j none := rfl
theorem weakJ {F : Fx} {B : Hp} {ad : Nat → Addr} {env : Env} (R : Rel K F B ad env σ H) {j : Nat} (hio : isIo env j = false) (s : Option V) : Rel K F B ad (env.set j .no) (σ.set j s) H := by
  refine R.weak (by rw [List.length_set, List.length_set]; exact R.len) (fun k s e hs => ?_) (fun k o e => ?_) fun k o e => .inl ?_
  · by_cases q : k = j
    · subst q
      by_cases hk : k < env.length
      · rw [List.getElem?_set_self hk] at e
        cases e
        exact absurd rfl hs
      · rw [List.getElem?_eq_none (by rw [List.length_set]; omega)] at e
        cases e
    · rw [List.getElem?_set_ne (Ne.symm q)] at e
      exact ⟨e, List.getElem?_set_ne (Ne.symm q)⟩
  · have q : k ≠ j := fun z => by
      subst z
      exact isIo_no hio o e
    rw [List.getElem?_set_ne (Ne.symm q)]
    exact e
  · have q : k ≠ j := fun z => by
      subst z
      exact isIo_noh hio o e
    rw [List.getElem?_set_ne (Ne.symm q)]
    exact e
theorem s_compT {elt : ME} {j : Nat} {src : MEs} {ts : MT} {Q : VK} (h : rE K (cComp elt j src ts) σ H Q) : tLc (rIt K src) (gName j) (rT K ts) (rV K elt) [j] σ H Q := by
  obtain ⟨F, B, ad, env, r, env', R, e, q⟩ := h
  unfold cComp at e
  (try unfold IF at e); split at e
  · cases e
  · rename_i ds env1 e1
    (try unfold IF at e); split at e
    · cases e
    · rename_i s0 hj
      (try unfold IF at e); split at e
      case isFalse => cases e
      rename_i hks
      (try unfold IF at e); split at e
      · cases e
      · rename_i ys envE eC
        (try unfold IF at e); split at e
        · rename_i hz
          cases e
          refine ⟨F, B, ad, env, ds, env1, R, e1, fun J B1 H1 x1 R1 hJ Dl hDl => ?_⟩
          obtain ⟨G, Y, w, hG, hY⟩ := hJ
          have hj1 : j < env1.length := (List.getElem?_eq_some_iff.mp hj).1
          have io1 : isIo env1 j = false := by
            unfold isIo
            rw [hj]
            cases s0 <;> first | rfl | cases hks
          have f0 : F.H0 Dl = none := R1.fresh hDl
          have b0 : F.B0 Dl = none := by
            cases z : F.B0 Dl with
            | none => rfl
            | some o =>
              have := R1.ex _ _ (R1.ex0 _ _ z)
              rw [hDl] at this
              cases this
          have fio : F.io ≠ some Dl := fun z => by
            obtain ⟨k, o, h1, h2⟩ := R1.ioh Dl z
            exact R1.ne hDl (ownAt_io h1) h2
          refine lc_it w (fun i H => ∃ B env acc done rest, Ex B1 B ∧ Rel K F B ad (env.set j .no) (σ.set j none) H ∧ H Dl = some (.lst acc) ∧ B Dl = none ∧ (∀ k o, ownAt (env.set j .no) k = some o → ad k ≠ Dl) ∧
            RpAll K B acc done ∧ acc.length ≤ i ∧ compL ts (fun e => fz (elt e)) j (ds.drop i) env = some (rest, envE) ∧ ys = done ++ rest ∧ j < env.length)
            ⟨B1, env1.set j .no, [], [], ys, Ex.refl B1, by rw [List.set_set]; exact weakJ (R1.alloc hDl _) io1 none, upd_same, R1.noB hDl, ?_, .nil, Nat.le_refl _, eC, rfl, by rw [List.length_set]; exact hj1⟩ (fun i H _ ⟨B, env, acc, done, rest, x, R, _⟩ => hG H (x.trans R.ex)) ?_ ?_
          · intro k o g
            rw [List.set_set] at g
            have R1' := weakJ R1 io1 none
            exact R1'.ne hDl g
          · rintro i v H H' hi ⟨B2, env2, acc, done, rest, x, R2, hD, hB, hn, hr, hl, e2, hy, hj2⟩ y
            obtain ⟨d, hd, hv⟩ := hY i H v H' hi (x.trans R2.ex) y
            have hdrop : ds.drop i = d :: ds.drop (i + 1) := by
              obtain ⟨h1, h2⟩ := List.getElem?_eq_some_iff.mp hd
              rw [List.drop_eq_getElem_cons h1, h2]
            rw [hdrop] at e2
            unfold compL at e2
            have R3 := R2.hold hD hB hn
            have hv' : ∃ B', Ex B2 B' ∧ Rel K (F.hold Dl (.lst acc)) B' ad (env2.set j .no) (σ.set j none) H' ∧ Rp K B' v d := by
              rcases hv with ⟨rfl, hv⟩ | ⟨T, us, es, rfl, hT, rfl, rfl, hv⟩
              · exact ⟨B2, Ex.refl B2, R3, dpM x _ hv⟩
              · obtain ⟨B', x', R', ok⟩ := newT R3 hT (dpAM x _ hv)
                cases ok with
                | imm ok => exact ⟨B', x', R', ok⟩
            obtain ⟨B3, x3, R4, hd3⟩ := hv'
            have hj3 : j < (env2.set j .no).length := by rw [List.length_set]; exact hj2
            have hp : put1 (env2.set j .no) j (.imm d) = some (env2.set j (.imm d)) := by
              unfold put1
              rw [List.getElem?_set_self hj2]
              show some ((env2.set j .no).set j (.imm d)) = _
              rw [List.set_set]
            have R5 := R4.putI hd3 hp
            refine ⟨?_, ?_⟩
            · show ((σ.set j none).set j (some v)).set j none = σ.set j none
              rw [List.set_set, List.set_set]
            · have sset : ∀ {B : Hp} {env : Env} {H : Hp}, isIo env j = false → Rel K (F.hold Dl (.lst acc)) B ad env ((σ.set j none).set j (some v)) H → Rel K (F.hold Dl (.lst acc)) B ad (env.set j .no) (σ.set j none) H := fun hio R => by
                have := weakJ R hio none
                rw [List.set_set, List.set_set] at this
                exact this
              (try unfold IF at e2); split at e2
              · cases e2
              · rename_i env3 e3
                (try unfold IF at e2); split at e2
                · cases e2
                · rename_i hio
                  refine ⟨_, B3, ad, env2.set j (.imm d), false, env3, R5, e3, fun B4 H4 x4 R6 => ?_⟩
                  show ∃ B env acc done rest, _
                  have hio : isIo env3 j = false := by simpa using hio
                  obtain ⟨R7, h1, h2, h3⟩ := (sset hio R6).unhold fio f0 b0
                  refine ⟨B4, env3, acc, done, rest, (x.trans x3).trans x4, R7, h1, h2, h3, dpAM (x3.trans x4) _ hr, Nat.le_succ_of_le hl, e2, hy, ?_⟩
                  have z : env3.length = env2.length := (R6.len.symm.trans R5.len).trans List.length_set
                  omega
              · rename_i env3 e3
                refine ⟨_, B3, ad, env2.set j (.imm d), true, env3, R5, e3, fun B4 H4 x4 R6 => ?_⟩
                (try unfold IF at e2); split at e2
                · cases e2
                · rename_i y' env4 e4
                  (try unfold IF at e2); split at e2
                  · cases e2
                  · rename_i hio
                    (try unfold IF at e2); split at e2
                    · cases e2
                    · rename_i ys' env5 e5
                      cases e2
                      show rV K elt _ H4 _
                      refine ⟨_, B4, ad, env3, y', env4, R6, e4, fun u B5 H5 x5 R7 hu => ?_⟩
                      have hio : isIo env4 j = false := by simpa using hio
                      obtain ⟨R8, h1, h2, h3⟩ := (sset hio R7).unhold fio f0 b0
                      have ext : Ex B2 B5 := (x3.trans x4).trans x5
                      refine ⟨acc, h1, by have hil : i < ds.length := hi; omega, B5, env4, acc ++ [u], done ++ [y'], ys', x.trans ext, ?_, upd_same, h2, h3, dpA_app (dpAM ext _ hr) (.cons hu .nil), ?_, e5, ?_, ?_⟩
                      · -- the new list is no datum and no slot's object
                        have := R8
                        refine ⟨fun a o e => ?_, R8.ex0, R8.fr, fun a o z1 z2 => ?_, R8.len, R8.imm, fun k o g => ?_, R8.nw, R8.iow, R8.inj, R8.ioh, R8.nwh, R8.iol, fun k b ns g => ?_⟩
                        · rw [upd_ne (ne_of_none e h2)]
                          exact R8.ex a o e
                        · have z : a ≠ Dl := fun z => by rw [z, f0] at z2; cases z2
                          rw [upd_ne z]
                          exact R8.kp a o z1 z2
                        · obtain ⟨a1, a2, ho, a3, a4⟩ := R8.own k o g
                          exact ⟨a1, a2, ho, by rw [upd_ne (h3 k o g)]; exact a3, a4⟩
                        · obtain ⟨hx, c, d⟩ := R8.stk k b ns g
                          exact ⟨hx, by rw [upd_ne (h3 k _ g)]; exact c, d⟩
                      · rw [List.length_append, List.length_singleton]
                        omega
                      · rw [hy, List.append_assoc]
                        rfl
                      · have z : env4.length = env2.length := ((R7.len.symm.trans R6.len).trans (R6.len.symm.trans R5.len)).trans List.length_set
                        omega
          · rintro H2 ⟨B2, env2, acc, done, rest, x, R2, hD, hB, hn, hr, hl, e2, hy, hj2⟩
            rw [List.drop_length] at e2
            cases e2
            rw [List.append_nil] at hy
            subst hy
            have oth : ∀ {k : Nat}, k ≠ j → (envE.set j s0)[k]? = (envE.set j .no)[k]? ∧ (σ.set j none)[k]? = σ[k]? := fun {k} z =>
              ⟨by rw [List.getElem?_set_ne (Ne.symm z), List.getElem?_set_ne (Ne.symm z)], List.getElem?_set_ne (Ne.symm z)⟩
            have own' : ∀ k o, ownAt (envE.set j s0) k = some o → k ≠ j ∧ ownAt (envE.set j .no) k = some o := fun k o g => by
              have z : k ≠ j := fun z => by
                subst z
                rw [ownAt_set hj2] at g
                cases s0 with
                | no => cases g
                | imm d => cases g
                | own o => exact absurd hks Bool.false_ne_true
                | io o => exact absurd hks Bool.false_ne_true
                | hid o => exact absurd hks Bool.false_ne_true
              refine ⟨z, ?_⟩
              rw [ownAt_set_ne (Ne.symm z)] at g ⊢
              exact g
            have Rf : Rel K F B2 ad (envE.set j s0) σ H2 := by
              refine ⟨R2.ex, R2.ex0, R2.fr, R2.kp, ?_, fun k d e => ?_, fun k o e => ?_, fun k o e => ?_, fun k o e => ?_, fun k l o o' e e' => R2.inj k l o o' (own' k o e).2 (own' l o' e').2, fun a e => ?_, fun k o e => ?_, fun k o e => ?_, fun k b ns e => ?_⟩
              · have := R2.len
                rw [List.length_set, List.length_set] at this
                rw [List.length_set]
                exact this
              · by_cases z : k = j
                · subst z
                  rw [List.getElem?_set_self hj2] at e
                  cases e
                  obtain ⟨v, h1, h2⟩ := R1.imm _ _ hj
                  exact ⟨v, h1, dpM x _ h2⟩
                · rw [(oth z).1] at e
                  rw [← (oth z).2]
                  exact R2.imm k d e
              · obtain ⟨z, e⟩ := own' k o e
                rw [← (oth z).2]
                exact R2.own k o e
              · have z := (own' k o (ownAt_own e)).1
                rw [(oth z).1] at e
                exact R2.nw k o e
              · have z := (own' k o (ownAt_io e)).1
                rw [(oth z).1] at e
                exact R2.iow k o e
              · obtain ⟨k, o, a1, a2⟩ := R2.ioh a e
                have z : k ≠ j := fun z => by
                  subst z
                  rw [List.getElem?_set_self hj2] at a1
                  cases a1
                exact ⟨k, o, by rw [(oth z).1]; exact a1, a2⟩
              · have z := (own' k o (ownAt_hid e)).1
                rw [(oth z).1] at e
                exact R2.nwh k o e
              · have z := (own' k o (ownAt_io e)).1
                rw [(oth z).1] at e
                exact R2.iol k o e
              · obtain ⟨z, e⟩ := own' k _ e
                obtain ⟨hx, c, d⟩ := R2.stk k b ns e
                refine ⟨hx, c, d.mono (Ex.refl B2) fun j' u _ w => ⟨⟨u, ?_⟩, rfl⟩⟩
                have z' : j' ≠ j := fun z' => by
                  subst z'
                  rw [List.getElem?_set_self hj2] at w
                  cases w
                rw [(oth z').1]
                exact w
            exact q (.ref Dl) B2 H2 (x1.trans x) Rf (.own hD (.lst hr) hB f0 fun k o g => hn k o (own' k o g).2)
        · cases e
end
end Z
/-! Zz: calls of defs; what a def promises. -/
namespace Z
open PySem PySem.Spec PyProof.Rows L2
open Evl (Ex ex_rd ex_l ex_t)
theorem putO_ne {env : Env} {i j : Nat} {o : O} (h : j ≠ i) : ownAt (putO env i o) j = ownAt env j := by
  have e : (putO env i o)[j]? = env[j]? := by
    unfold putO
    split
    · exact List.getElem?_set_ne (Ne.symm h)
    · exact List.getElem?_set_ne (Ne.symm h)
    · exact List.getElem?_set_ne (Ne.symm h)
    · rfl
  unfold ownAt
  rw [e]
/-! ### a def's promise -/
inductive OutR (K : PySem.W.Frag) (H B' H' : Hp) : V → Res → Prop
  | imm {v : V} {d : D} : Rp K B' v d → OutR K H B' H' v (.imm d)
  | own {q : Addr} {ho : HO} {o : O} : H q = none → B' q = none → H' q = some ho → OLk K B' ho o → OutR K H B' H' (.ref q) (.own o)
inductive Args (K : PySem.W.Frag) (F : Fx) : List V → Option O → List D → Prop
  | no {vs : List V} {ds : List D} : F.io = none → RpAll K F.B0 vs ds → Args K F vs none ds
  | io {p : Addr} {vs : List V} {ds : List D} {ho : HO} {o : O} : F.io = some p → F.B0 p = none → F.H0 p = some ho → OLk K F.B0 ho o → RpAll K F.B0 vs ds → Args K F (.ref p :: vs) (some o) ds
def IoOk (K : PySem.W.Frag) (F : Fx) (B' H' : Hp) (o' : Option O) : Prop := ∀ p, F.io = some p → B' p = none ∧ ∃ ho o'', o' = some o'' ∧ H' p = some ho ∧ OLk K B' ho o''
def spF (K : PySem.W.Frag) (n : Nat) (g : Fun1) : Sp := fun vs H Q _ => ∃ (F : Fx) (o : Option O) (ds : List D) (r : Res) (o' : Option O), vs.length = n ∧ F.H0 = H ∧ Ex F.B0 H ∧ Args K F vs o ds ∧ g o ds = some (r, o') ∧
  ∀ v B' H', Ex F.B0 B' → (∀ a u, B' a = some u → F.B0 a = some u ∨ F.H0 a = none) → (∀ a u, F.io ≠ some a → F.H0 a = some u → H' a = some u) → Ex B' H' → IoOk K F B' H' o' → OutR K F.H0 B' H' v r → Q v H'
structure Tb where
  T : List Df
  fn : List Str
  np : List Nat
  gc : List (Str × V)
  nb : List Str
  /-- methods: which entry, of which class, by which name -/
  ms : List (Nat × Str × Str) := []
  /-- the fields of instances -/
  fl : List (Str × Str) := []
  /-- the classes that are called -/
  mks : List Str := []
/-- where an entry's function stands -/
structure Rch (tb : Tb) (K : PySem.W.Frag) (mg : Str → Option Value) (f : Nat) (a : Addr) : Prop where
  fn : ∀ x, tb.fn[f]? = some x → mg x = some (.ref a)
  ms : ∀ c m, (f, c, m) ∈ tb.ms → a = He.ma K (He.ga K c) m
/-- what is known of the classes -/
structure Clk (tb : Tb) (K : PySem.W.Frag) (mg : Str → Option Value) : Prop where
  ms : ∀ f c m, (f, c, m) ∈ tb.ms → Cls K (He.ga K c) ∧ (m = "__init__" ∨ Meth K (He.ga K c) m (He.ma K (He.ga K c) m))
  fl : ∀ c f, (c, f) ∈ tb.fl → Cls K (He.ga K c) ∧ NoAttr K (He.ga K c) f
  mks : ∀ c, c ∈ tb.mks → mg c = some (.ref (He.ga K c)) ∧ Mk K (He.ga K c) (He.ma K (He.ga K c) "__init__")
/-- what a body may lean on -/
structure Bx (tb : Tb) (k : Nat) (N : List Str) (X : Cx) : Prop where
  hN : X.N = N
  nd : N.Nodup
  calm : X.calm = true
  hp : PassesOwn (model X.prog X.w) X.A X.env X.xe
  hu : X.A.units + 64 < cLine
  nb : ∀ x ∈ tb.nb, X.mg x = none
  gc : ∀ x v, (x, v) ∈ tb.gc → ∃ u, X.mg x = some u ∧ RelV v u
  room : Room (2 * k + 1) X.A
  cl : Clk tb X.K X.mg
  fn : ∀ (f : Nat) (n : Nat), tb.np[f]? = some n → ∃ a fd ps, ps.length = n ∧ Rch tb X.K X.mg f a ∧ PySem.W.keepIn X.K (.ref a) = true ∧ Binds X.K fd ps [] ∧ FnOk X.prog X.w X.K X.mg X.base CX0 (2 * k) a fd ps (spF X.K n (run tb.T k f))
section
variable {tb : Tb} {k : Nat} {N : List Str} {X : Cx}
theorem Bx.blk (C : Bx tb k N X) (s : Shared) (H : Hp) (scope : Scope) (cenv : PySem.Env) (fp : List Addr) : Bx tb k N (X.blk s H scope cenv fp) :=
  ⟨C.hN, C.nd, C.calm, PassesOwn.never, C.hu, C.nb, C.gc, C.room, C.cl, C.fn⟩
theorem s_call {f : Nat} {x : Str} {n : Nat} {e : Expr} {es : List Expr} {p pos : Pos} {fs : MEs} (C : Bx tb k N X) (hx : tb.fn[f]? = some x) (hn : tb.np[f]? = some n) (hlen : (e :: es).length = n) (hg : Gl X x) (hd : (x == ("__debug__" : Str)) = false) (ho : ordB e = true) (hos : es.all ordB = true) (ha : PA X (e :: es) (rA X.K fs))
    (hl : ∀ env ds env', fs env = some (ds, env') → ds.length = n) : PE X (.Call (.Name x p) (e :: es) [] pos) (rE X.K (cCall (run tb.T k) f fs)) := by
  obtain ⟨a, fd, ps, hps, hm, hk, hb, hF⟩ := C.fn f n hn
  have hm := hm.fn x hx
  refine (pe_call hF (C.room.mono (Nat.le_succ _)) hg hm hk hb .nil pass0 ha hd (ord_star ho es) (ords_plain hos)).imp fun σ H Q h => ?_
  refine args (G := fun ds r => run tb.T k f none ds = some (r, none) ∧ ds.length = n) h (fun env r env' e => ?_) fun F B ad env' vs ds r H2 R d1 g q => ?_
  · unfold cCall at e
    split at e
    · cases e
    · rename_i ds env1 e1
      split at e
      · rename_i r' e2
        cases e
        exact ⟨ds, e1, e2, hl _ _ _ e1⟩
      · cases e
  · rw [List.append_nil]
    refine ⟨⟨B, H2, none⟩, none, ds, r, none, by rw [dpA_len d1]; exact g.2, rfl, R.ex, .no rfl d1, g.1, fun v B' H' x fr kp x2 io out => ?_⟩
    have R' : Rel X.K F B' ad env' σ H' := R.callee x fr x2 fun a u e => kp a u (fun z => nomatch z) e
    refine q v B' H' x R' ?_
    cases out with
    | imm h => exact .imm h
    | own h1 h2 h3 h4 => exact .own h3 h4 h2 (R.fresh h1) fun j o g => R.ne h1 g
theorem s_call0 {f : Nat} {x : Str} {p pos : Pos} (C : Bx tb k N X) (hx : tb.fn[f]? = some x) (hn : tb.np[f]? = some 0) (hg : Gl X x) (hd : (x == ("__debug__" : Str)) = false) : PE X (.Call (.Name x p) [] [] pos) (rE X.K (cCall (run tb.T k) f msNil.es)) := by
  obtain ⟨a, fd, ps, hps, hm, hk, hb, hF⟩ := C.fn f 0 hn
  have hm := hm.fn x hx
  refine (pe_call0 hF (C.room.mono (Nat.le_succ _)) hg hm hk hb .nil pass0 hd).imp fun σ H Q h => ?_
  obtain ⟨F, B, ad, env, r, env', R, e, q⟩ := h
  unfold cCall at e
  split at e
  · cases e
  · rename_i ds env1 e1
    cases e1
    split at e
    · rename_i r' e2
      cases e
      refine ⟨⟨B, H, none⟩, none, [], r, none, rfl, rfl, R.ex, .no rfl .nil, e2, fun v B' H' x fr kp x2 io out => ?_⟩
      have R' := R.callee x fr x2 fun a u e => kp a u (fun z => nomatch z) e
      refine q v B' H' x R' ?_
      cases out with
      | imm h => exact .imm h
      | own h1 h2 h3 h4 => exact .own h3 h4 h2 (R.fresh h1) fun j o g => R.ne h1 g
    · cases e
/-- a def that is lent a slot's object -/
theorem s_callIO {f i : Nat} {x y : Str} {n : Nat} {es : List Expr} {p p2 pos : Pos} {fs : MEs} (C : Bx tb k N X) (hx : tb.fn[f]? = some x) (hn : tb.np[f]? = some n) (hlen : es.length + 1 = n) (hg : Gl X x) (hd : (x == ("__debug__" : Str)) = false) (hos : es.all ordB = true) (hv : PE X (.Name y p2) (tVar i)) (ha : PA X es (rA X.K fs))
    (hl : ∀ env ds env', fs env = some (ds, env') → ds.length + 1 = n) : PE X (.Call (.Name x p) (.Name y p2 :: es) [] pos) (rE X.K (cCallIO (run tb.T k) f i fs)) := by
  obtain ⟨a, fd, ps, hps, hm, hk, hb, hF⟩ := C.fn f n hn
  have hm := hm.fn x hx
  refine (pe_call hF (C.room.mono (Nat.le_succ _)) hg hm hk hb .nil pass0 (pa_cons hv ha (ord_star (by rfl) es)) hd (ord_star (by rfl) es) (ords_plain hos)).imp fun σ H Q h => ?_
  obtain ⟨F, B, ad, env, r, env', R, e, q⟩ := h
  unfold cCallIO at e
  split at e
  · cases e
  · rename_i o0 h0
    split at e
    · cases e
    · rename_i ds env1 e1
      split at e
      · cases e
      rename_i o h1
      unfold IF at e
      split at e
      · rename_i hol
        split at e
        · rename_i r' o' e2
          cases e
          refine ⟨_, (R.own i _ h0).1, F, B, ad, env, ds, env1, R, e1, fun vs B1 H1 x1 R1 d1 => ?_⟩
          obtain ⟨h3, h4, ho, h5, h6⟩ := R1.own i _ h1
          rw [List.append_nil]
          refine ⟨⟨B1, H1, some (ad i)⟩, some o, ds, r, some o', by rw [List.length_cons, dpA_len d1]; exact hl _ _ _ e1, rfl, R1.ex, .io rfl h4 h5 (OLk.of h6 hol) d1, e2, fun v B' H' x fr kp x2 io out => ?_⟩
          obtain ⟨h7, ho', o2, h8, h9, h10⟩ := io (ad i) rfl
          cases h8
          -- all but the lent object
          have xH : Ex B' (upd H' (ad i) ho) := fun b u e => by
            have z : b ≠ ad i := fun z => by rw [z, h7] at e; cases e
            rw [upd_ne z]
            exact x2 b u e
          have kH : Ex H1 (upd H' (ad i) ho) := fun b u e => by
            by_cases z : b = ad i
            · rw [z, upd_same]
              rw [z, h5] at e
              exact e
            · rw [upd_ne z]
              exact kp b u (fun w => z (Option.some.inj w).symm) e
          have R' : Rel X.K F B' ad env1 σ (upd H' (ad i) ho) := R1.callee x fr xH kH
          have R2 := R'.setO h1 h10.toO (.inl h10.ok) (fun b ns z => absurd z (IsL_stk h10.ok b ns))
          have eH : upd (upd H' (ad i) ho) (ad i) ho' = H' := by
            rw [upd_upd]
            funext b
            by_cases z : b = ad i
            · rw [z, upd_same, h9]
            · rw [upd_ne z]
          rw [eH] at R2
          refine q v B' H' (x1.trans x) R2 ?_
          cases out with
          | imm h => exact .imm h
          | own g1 g2 g3 g4 =>
            refine .own g3 g4 g2 (R1.fresh g1) fun j u g z => ?_
            have hj : ∃ u', ownAt env1 j = some u' := by
              by_cases w : j = i
              · subst w
                exact ⟨o, h1⟩
              · refine ⟨u, ?_⟩
                rw [← g]
                exact (putO_ne w).symm
            obtain ⟨u', hj⟩ := hj
            exact R1.ne g1 hj z
        · cases e
      · cases e
/-! ### a body -/
theorem at_mapS {f : D → Slot} (ds : List D) (m : Nat) (s : Slot) (i : Nat) (h : (ds.map f ++ List.replicate m Slot.no)[i]? = some s) : (∃ d, ds[i]? = some d ∧ s = f d) ∨ s = .no := by
  by_cases hi : i < ds.length
  · left
    rw [List.getElem?_append_left (by rw [List.length_map]; exact hi), List.getElem?_map] at h
    cases e : ds[i]? with
    | none => rw [e] at h; cases h
    | some d =>
      rw [e] at h
      exact ⟨d, rfl, (Option.some.inj h).symm⟩
  · right
    rw [List.getElem?_append_right (by rw [List.length_map]; omega)] at h
    obtain ⟨_, h⟩ := List.getElem?_eq_some_iff.mp h
    rw [List.getElem_replicate] at h
    exact h.symm
theorem at_mapV (vs : List V) (m : Nat) (i : Nat) (v : V) (h : vs[i]? = some v) : (vs.map some ++ List.replicate m none)[i]? = some (some v) := by
  obtain ⟨hi, e⟩ := List.getElem?_eq_some_iff.mp h
  rw [List.getElem?_append_left (by rw [List.length_map]; exact hi), List.getElem?_map, h]
  rfl
theorem rel_start {K : PySem.W.Frag} {F : Fx} {vs : List V} {o : Option O} {ds : List D} {M : List Str} (x : Ex F.B0 F.H0) (h : Args K F vs o ds) (hl : vs.length ≤ M.length) : ∃ ad, Rel K F F.B0 ad (env0 M.length o ds) (L2.start M vs) F.H0 := by
  cases h with
  | no hio hr =>
    have hlen := dpA_len hr
    have he : env0 M.length none ds = ds.map Slot.imm ++ List.replicate (M.length - ds.length) Slot.no := by
      show [] ++ ds.map Slot.imm ++ List.replicate (M.length - (ds.length + 0)) Slot.no = _
      rw [List.nil_append, Nat.add_zero]
    rw [he]
    have no : ∀ i u, ownAt (ds.map Slot.imm ++ List.replicate (M.length - ds.length) Slot.no) i ≠ some u := fun i u e => by
      rcases ownAt_or e with e | e | e <;> rcases at_mapS _ _ _ _ e with ⟨_, _, z⟩ | z <;> cases z
    refine ⟨fun _ => 0, ⟨x, Ex.refl _, fun a u e => .inl e, fun a u _ e => e, ?_, fun i d e => ?_, fun i u e => absurd e (no i u), fun i u e => absurd (ownAt_own e) (no i u), fun i u e => absurd (ownAt_io e) (no i u), fun i j u u' e => absurd e (no i u), fun a e => ?_, fun i u e => absurd (ownAt_hid e) (no i u), fun i u e => absurd (ownAt_io e) (no i u), fun i b ns e => absurd e (no i _)⟩⟩
    · unfold L2.start
      rw [List.length_append, List.length_append, List.length_map, List.length_map, List.length_replicate, List.length_replicate, hlen]
    · rcases at_mapS _ _ _ _ e with ⟨d', h1, h2⟩ | z
      · cases h2
        obtain ⟨v, h3, h4⟩ := dpA_at i hr h1
        exact ⟨v, at_mapV _ _ _ _ h3, h4⟩
      · cases z
    · rw [hio] at e
      cases e
  | @io p vs ds ho o hio hb hh ho' hr =>
    have hlen := dpA_len hr
    have he : env0 M.length (some o) ds = .io o :: (ds.map Slot.imm ++ List.replicate (M.length - (ds.length + 1)) Slot.no) := rfl
    rw [he]
    have hl' : ds.length + 1 ≤ M.length := by
      rw [List.length_cons] at hl
      omega
    have z0 : ∀ i u, ownAt (.io o :: (ds.map Slot.imm ++ List.replicate (M.length - (ds.length + 1)) Slot.no)) i = some u → i = 0 ∧ u = o := fun i u e => by
      cases i with
      | zero => rcases ownAt_or e with e | e | e <;> cases e; exact ⟨rfl, rfl⟩
      | succ i =>
        rcases ownAt_or e with e | e | e <;> rw [List.getElem?_cons_succ] at e <;> rcases at_mapS _ _ _ _ e with ⟨_, _, z⟩ | z <;> cases z
    refine ⟨fun _ => p, ⟨x, Ex.refl _, fun a u e => .inl e, fun a u _ e => e, ?_, fun i d e => ?_, fun i u e => ?_, fun i u e => ?_, fun i u e => hio, fun i j u u' e e' _ => ?_, fun a e => ?_, fun i u e => ?_, fun i u e => ?_, fun i b ns e => ?_⟩⟩
    · unfold L2.start
      rw [List.length_append, List.length_map, List.length_cons, List.length_cons, List.length_append, List.length_map, List.length_replicate, List.length_replicate, hlen]
      omega
    · cases i with
      | zero => cases e
      | succ i =>
        rw [List.getElem?_cons_succ] at e
        rcases at_mapS _ _ _ _ e with ⟨d', h1, h2⟩ | z
        · cases h2
          obtain ⟨v, h3, h4⟩ := dpA_at i hr h1
          exact ⟨v, at_mapV (.ref p :: vs) _ (i + 1) v (by rw [List.getElem?_cons_succ]; exact h3), h4⟩
        · cases z
    · obtain ⟨rfl, rfl⟩ := z0 i u e
      exact ⟨rfl, hb, ho, hh, ho'.toO⟩
    · have := z0 i u (ownAt_own e)
      obtain ⟨rfl, rfl⟩ := this
      cases e
    · rw [(z0 i u e).1, (z0 j u' e').1]
    · refine ⟨0, o, rfl, ?_⟩
      rw [hio] at e
      exact Option.some.inj e
    · have := z0 i u (ownAt_hid e)
      obtain ⟨rfl, rfl⟩ := this
      cases e
    · rw [(z0 i u (ownAt_io e)).2]
      exact ho'.ok
    · exact absurd (z0 i _ e).2.symm (IsL_stk ho'.ok b ns)
theorem ioOf_some : ∀ {env : Env} {o : O}, ioOf env = some o → ∃ i : Nat, env[i]? = some (.io o)
  | [], _, h => by cases h
  | .io o :: _, o', h => by
    cases h
    exact ⟨0, rfl⟩
  | .no :: r, o', h => by
    obtain ⟨i, e⟩ := ioOf_some (env := r) h
    exact ⟨i + 1, by rw [List.getElem?_cons_succ]; exact e⟩
  | .imm _ :: r, o', h => by
    obtain ⟨i, e⟩ := ioOf_some (env := r) h
    exact ⟨i + 1, by rw [List.getElem?_cons_succ]; exact e⟩
  | .own _ :: r, o', h => by
    obtain ⟨i, e⟩ := ioOf_some (env := r) h
    exact ⟨i + 1, by rw [List.getElem?_cons_succ]; exact e⟩
  | .hid _ :: r, o', h => by
    obtain ⟨i, e⟩ := ioOf_some (env := r) h
    exact ⟨i + 1, by rw [List.getElem?_cons_succ]; exact e⟩
theorem ioOf_none : ∀ {env : Env}, ioOf env = none → ∀ (i : Nat) (o : O), env[i]? ≠ some (.io o)
  | [], _, i, o => by simp
  | .io o :: _, h, _, _ => by cases h
  | .no :: r, h, 0, o => by simp
  | .imm _ :: r, h, 0, o => by simp
  | .own _ :: r, h, 0, o => by simp
  | .hid _ :: r, h, 0, o => by simp
  | .no :: r, h, i + 1, o => by
    rw [List.getElem?_cons_succ]
    exact ioOf_none (env := r) h i o
  | .imm _ :: r, h, i + 1, o => by
    rw [List.getElem?_cons_succ]
    exact ioOf_none (env := r) h i o
  | .own _ :: r, h, i + 1, o => by
    rw [List.getElem?_cons_succ]
    exact ioOf_none (env := r) h i o
  | .hid _ :: r, h, i + 1, o => by
    rw [List.getElem?_cons_succ]
    exact ioOf_none (env := r) h i o
/-- a body's end is the def's end -/
theorem rel_end {K : PySem.W.Frag} {F : Fx} {B' H' : Hp} {ad : Nat → Addr} {env : Env} {σ : L2.St} (R : Rel K F B' ad env σ H') : IoOk K F B' H' (ioOf env) := fun p hp => by
  obtain ⟨i, o, h1, h2⟩ := R.ioh p hp
  cases e : ioOf env with
  | none => exact absurd h1 (ioOf_none e i o)
  | some o' =>
    obtain ⟨j, hj⟩ := ioOf_some e
    have q := R.iow j o' hj
    obtain ⟨_, h3, ho, h4, h5⟩ := R.own j o' (ownAt_io hj)
    have h5 : OLk K B' ho o' := OLk.of h5 (R.iol j o' hj)
    rw [hp] at q
    have q : p = ad j := Option.some.inj q
    rw [q]
    exact ⟨h3, ho, o', rfl, h4, h5⟩
theorem body_ok {P : Program} {w : World} {K : PySem.W.Frag} {mg : Str → Option Value} {base : Heap} {x qual : Str} {st : Stmt} {f : Addr} {fd : FuncData} {M ps : List Str} {body : Ss} (F : L2.Fun K x qual st f fd) (S : FnScope M ps (defScope st)) (hle : ps.length ≤ M.length)
    (hb : ∀ X : Cx, Bx tb k M X → X.env.scope = defScope st → (∀ y, X.fn y = true) → X.prog = P → X.w = w → X.K = K → X.mg = mg → X.base = base → PSs X (defBody st) (rS X.K (evSs (run tb.T k) body)))
    (hcl : Clk tb K mg) (hnb : ∀ x ∈ tb.nb, mg x = none) (hgc : ∀ x v, (x, v) ∈ tb.gc → ∃ u, mg x = some u ∧ RelV v u)
    (hfn : ∀ (f : Nat) (n : Nat), tb.np[f]? = some n → ∃ a fd ps, ps.length = n ∧ Rch tb K mg f a ∧ PySem.W.keepIn K (.ref a) = true ∧ Binds K fd ps [] ∧ FnOk P w K mg base CX0 (2 * k) a fd ps (spF K n (run tb.T k f))) :
    FnOk P w K mg base CX0 (2 * (k + 1)) f fd ps (spF K ps.length (runD (run tb.T k) M.length body)) := by
  show FnOk P w K mg base CX0 (2 * k + 1 + 1) f fd ps _
  refine F.ok S (fun vs H Q E h => ?_) (fun cdv A outer s H vs Q E hr h => ?_)
  · obtain ⟨_, _, _, _, _, h, _⟩ := h
    exact h
  · obtain ⟨G, o, ds, r, o', hlen, rfl, hex, hA, hrun, q⟩ := h
    refine ⟨_, hb _ ⟨rfl, S.nd, rfl, PassesOwn.never, hr.units, hnb, hgc, hr, hcl, hfn⟩ rfl (fun _ => rfl) rfl rfl rfl rfl rfl, ?_⟩
    obtain ⟨ad, R⟩ := rel_start (M := M) hex hA (by omega)
    unfold runD at hrun
    split at hrun
    · rename_i r' env1 e1
      cases hrun
      exact rS_mk R e1 fun B' ad' σ' H' x R' v ok => q v B' H' R'.ex0 R'.fr R'.kp R'.ex (rel_end R') (by
        cases ok with
        | imm h => exact .imm h
        | own h1 h2 h3 h4 h5 => exact .own h4 h3 h1 h2)
    · rename_i env1 e1
      cases hrun
      exact rS_mk R e1 fun B' ad' σ' H' x R' => q .non B' H' R'.ex0 R'.fr R'.kp R'.ex (rel_end R') (.imm .non)
    · cases hrun
end
end Z
/-! Zi: instances of the text's own classes: fields, methods, making. -/
namespace Z
open PySem PySem.Spec PyProof.Rows L2
open Evl (Ex ex_rd ex_l ex_t)
section
variable {tb : Tb} {k : Nat} {N : List Str} {X : Cx}
theorem insAt_some {env : Env} {i : Nat} {c : Str} {fs : List (Str × D)} (h : insAt env i c = some fs) : ownAt env i = some (.ins c fs) := by
  unfold insAt at h
  split at h
  · rename_i c' fs' h1
    split at h
    · rename_i z
      cases h
      rw [h1, z]
    · cases h
  · cases h
theorem s_fld {i : Nat} {x c f : Str} {p pos : Pos} (hc : Cls X.K (He.ga X.K c)) (hn : NoAttr X.K (He.ga X.K c) f) (hv : PE X (.Name x p) (tVar i)) : PE X (.Attribute (.Name x p) f pos) (rE X.K (cFld i c f)) :=
  (pe_fld hv (by rfl)).imp fun σ H Q h => by
    obtain ⟨F, B, ad, env, r, env', R, e, q⟩ := h
    unfold cFld at e
    split at e
    · rename_i fs h1
      split at e
      · rename_i d h2
        cases e
        obtain ⟨h4, h5, ho, h6, h7⟩ := R.own i _ (insAt_some h1)
        cases h7 with
        | @ins dx fv _ _ h7 =>
          obtain ⟨v, h8, h9⟩ := h7.get h2
          exact ⟨_, h4, _, _, _, _, v, rfl, h6, hc, hn, h8, q v B H (Ex.refl B) R (.imm h9)⟩
      · cases e
    · cases e
theorem s_setf {i : Nat} {x c f : Str} {e : Expr} {g : ME} {p p2 pos : Pos} (hc : Cls X.K (He.ga X.K c)) (hn : NoAttr X.K (He.ga X.K c) f) (hcm : cmpB e = false) (hv : PE X (.Name x p) (tVar i)) (he : PE X e (rE X.K g)) :
    PS X (.Assign [.Attribute (.Name x p) f p2] e pos) (rS X.K (sSetf i c f g)) :=
  (ps_fld hv he.v (ord_sw hcm _ _)).imp fun D σ H h => by
    obtain ⟨F, B, ad, env, fl, env', R, e, q⟩ := rS_get h
    unfold sSetf at e
    split at e
    · cases e
    · rename_i d env1 e1
      split at e
      · rename_i fs h1
        unfold IF at e
        split at e
        · rename_i hz
          cases e
          refine ⟨F, B, ad, env, d, env1, R, e1, fun v B1 H1 x1 R1 hd => ?_⟩
          obtain ⟨h4, h5, ho, h6, h7⟩ := R1.own i _ (insAt_some h1)
          cases h7 with
          | @ins dx fv _ _ h7 =>
            exact ⟨_, h4, _, _, dx, fv, rfl, h6, hc, hn, by rw [h7.len]; exact hz, q B1 ad σ _ x1 (R1.setO (insAt_some h1) (.ins (h7.put hd)) (.inl (.inr ⟨_, _, rfl⟩)))⟩
        · cases e
      · cases e
theorem meth_ev {y m : Str} {p2 apos pos : Pos} {es : List Expr} {env : PySem.Env} (hos : es.all ordB = true) (hn : es.length < 29) (hl : (apos.endLine == pos.line) = true) :
    eval (.Call (.Attribute (.Name y p2) m apos) es [] pos) env = (do
      let ov ← eval (.Name y p2) env
      standAt apos.atName
      let (f, first) ← holding [ov] (getMethod ov m (do return (← importBound (.Name y p2) env).getD true))
      callWith pos f first (backTo pos (starEach es env)) (backToKw pos (keywordEach [] env))) := by
  have hform : methodCallForm (es.length + ([] : List Keyword).length) (backTo pos (starEach es env)) (backToKw pos (keywordEach [] env)) = true := by
    have h1 : (backTo pos (starEach es env)).any (·.1) = false := ords_plain hos
    have h2 : (backTo pos (starEach es env)).all (fun x => !x.1) = true := by
      rw [List.all_eq_true]
      intro x hx
      have := List.any_eq_false.mp h1 x hx
      simpa using this
    unfold methodCallForm
    rw [h2]
    show (true && true && decide (es.length + 0 + 0 < 30)) = true
    simp
    omega
  rw [arm_eval_Call]
  unfold methodCall
  rw [hform]
  unfold methodCallPos
  rw [hl]
  rfl
/-- a method of a slot's instance -/
theorem meth_run {f i n : Nat} {c m : Str} {fs : MEs} {a : Addr} {σ : L2.St} {H : Hp} {Q : VK} {E : XK} (hr : Rch tb X.K X.mg f a) (ta : TA)
    (hta : ∀ σ H Q, rA X.K fs σ H Q → ta σ H Q) (hl : ∀ env ds env', fs env = some (ds, env') → ds.length + 1 = n) (h : rE X.K (cMeth (run tb.T k) f i c m fs) σ H Q) :
    tMeth (He.ga X.K c) m (spF X.K n (run tb.T k f)) [] E (tVar i) ta σ H Q := by
  obtain ⟨F, B, ad, env, r, env', R, e, q⟩ := h
  unfold cMeth at e
  split at e
  · cases e
  · rename_i fs0 h0
    split at e
    · cases e
    · rename_i hno
      split at e
      · cases e
      · rename_i ds env1 e1
        split at e
        · cases e
        · rename_i o h1
          unfold IF at e
          split at e
          · rename_i hol
            split at e
            · rename_i r' o' e2
              cases e
              obtain ⟨g1, g2, hog, g3, g4⟩ := R.own i _ (insAt_some h0)
              cases g4 with
              | @ins dx0 fv0 _ _ g4 =>
                refine ⟨_, g1, _, dx0, fv0, rfl, g3, g4.none_of hno, hta _ _ _ ⟨F, B, ad, env, ds, env1, R, e1, fun vs B1 H1 x1 R1 d1 => ?_⟩⟩
                obtain ⟨h3, h4, ho, h5, h6⟩ := R1.own i _ h1
                rw [List.append_nil]
                refine ⟨⟨B1, H1, some (ad i)⟩, some o, ds, r, some o', by rw [List.length_cons, dpA_len d1]; exact hl _ _ _ e1, rfl, R1.ex, .io rfl h4 h5 (OLk.of h6 hol) d1, e2, fun v B' H' x fr kp x2 io out => ?_⟩
                obtain ⟨h7, ho', o2, h8, h9, h10⟩ := io (ad i) rfl
                cases h8
                have xH : Ex B' (upd H' (ad i) ho) := fun b u e => by
                  have z : b ≠ ad i := fun z => by rw [z, h7] at e; cases e
                  rw [upd_ne z]
                  exact x2 b u e
                have kH : Ex H1 (upd H' (ad i) ho) := fun b u e => by
                  by_cases z : b = ad i
                  · rw [z, upd_same]
                    rw [z, h5] at e
                    exact e
                  · rw [upd_ne z]
                    exact kp b u (fun w => z (Option.some.inj w).symm) e
                have R' : Rel X.K F B' ad env1 σ (upd H' (ad i) ho) := R1.callee x fr xH kH
                have R2 := R'.setO h1 h10.toO (.inl h10.ok) (fun b ns z => absurd z (IsL_stk h10.ok b ns))
                have eH : upd (upd H' (ad i) ho) (ad i) ho' = H' := by
                  rw [upd_upd]
                  funext b
                  by_cases z : b = ad i
                  · rw [z, upd_same, h9]
                  · rw [upd_ne z]
                rw [eH] at R2
                refine q v B' H' (x1.trans x) R2 ?_
                cases out with
                | imm h => exact .imm h
                | own g1 g2 g3 g4 =>
                  refine .own g3 g4 g2 (R1.fresh g1) fun j u g z => ?_
                  have hj : ∃ u', ownAt env1 j = some u' := by
                    by_cases w : j = i
                    · subst w
                      exact ⟨o, h1⟩
                    · refine ⟨u, ?_⟩
                      rw [← g]
                      exact (putO_ne w).symm
                  obtain ⟨u', hj⟩ := hj
                  exact R1.ne g1 hj z
            · cases e
          · cases e
theorem s_meth {f i n : Nat} {c m y : Str} {es : List Expr} {p2 apos pos : Pos} {fs : MEs} (C : Bx tb k N X) (hms : (f, c, m) ∈ tb.ms) (hmi : (m == ("__init__" : Str)) = false) (hap : (apos.endLine == pos.line) = true) (hln : es.length < 29) (hn : tb.np[f]? = some n) (hlen : es.length + 1 = n) (hos : es.all ordB = true) (hv : PE X (.Name y p2) (tVar i)) (ha : PA X es (rA X.K fs))
    (hl : ∀ env ds env', fs env = some (ds, env') → ds.length + 1 = n) (h0 : es = [] → ∀ env, fs env = some ([], env)) : PE X (.Call (.Attribute (.Name y p2) m apos) es [] pos) (rE X.K (cMeth (run tb.T k) f i c m fs)) := by
  obtain ⟨a, fd, ps, hps, hr, hk, hb, hF⟩ := C.fn f n hn
  have ea := hr.ms c m hms
  subst ea
  obtain ⟨hc, hm⟩ := C.cl.ms f c m hms
  have hm := hm.resolve_left fun z => by rw [z] at hmi; cases hmi
  cases es with
  | nil =>
    refine (pe_meth0 hv hc hm hF (C.room.mono (Nat.le_succ _)) hb .nil pass0 (ht := meth_ev (by rfl) (by decide) hap)).imp fun σ H Q h => ?_
    refine meth_run hr tNil (fun σ H Q h => ?_) hl h
    obtain ⟨F, B, ad, env, ds, env', R, e, q⟩ := h
    rw [h0 rfl] at e
    cases e
    exact q [] B H (Ex.refl B) R .nil
  | cons e es =>
    rw [List.all_cons, Bool.and_eq_true] at hos
    refine (pe_meth hv hc hm hF (C.room.mono (Nat.le_succ _)) hb .nil pass0 ha (ord_star hos.1 es) (ords_plain hos.2) (meth_ev (by rw [List.all_cons, hos.1, hos.2]; rfl) hln hap)).imp fun σ H Q h => ?_
    exact meth_run hr (rA X.K fs) (fun σ H Q h => h) hl h
/-- a class is called, without arguments -/
theorem s_new {f : Nat} {x : Str} {p pos : Pos} (C : Bx tb k N X) (hx : (f, x, ("__init__" : Str)) ∈ tb.ms) (hn : tb.np[f]? = some 1) (hmk : x ∈ tb.mks) (hg : Gl X x) (hd : (x == ("__debug__" : Str)) = false) :
    PE X (.Call (.Name x p) [] [] pos) (rE X.K (cNew (run tb.T k) f x)) := by
  obtain ⟨a, fd, ps, hps, hr, hk, hb, hF⟩ := C.fn f 1 hn
  have ea := hr.ms x "__init__" hx
  subst ea
  obtain ⟨hmg, hM⟩ := C.cl.mks x hmk
  refine (pe_make0 hM hF C.room hg hmg hb .nil pass0 hd).imp fun σ H Q h => ?_
  obtain ⟨F, B, ad, env, r, env', R, e, q⟩ := h
  unfold cNew at e
  split at e
  · rename_i o e1
    cases e
    intro xa dx h1 h2 hne
    have hB1 := R.noB h1
    have hB2 := R.noB h2
    have x0 : Ex B (upd B dx (.own xa)) := fun a u e => by
      rw [upd_ne (ne_of_none e hB2)]
      exact e
    refine ⟨⟨upd B dx (.own xa), upd (upd H dx (.own xa)) xa (.ins (He.ga X.K x) dx []), some xa⟩, some (.ins x []), [], .imm .none, some o, rfl, rfl, fun a u e => ?_, .io rfl ?_ upd_same (.ins .nil) .nil, e1, fun v B' H' xx fr kp x2 io out => ?_⟩
    · have e : upd B dx (.own xa) a = some u := e
      show upd (upd H dx (.own xa)) xa (.ins (He.ga X.K x) dx []) a = some u
      by_cases z : a = dx
      · rw [z, upd_same] at e
        rw [z, upd_ne hne, upd_same]
        exact e
      · rw [upd_ne z] at e
        have : a ≠ xa := fun w => by rw [w, hB1] at e; cases e
        rw [upd_ne this, upd_ne z]
        exact R.ex a u e
    · show upd B dx (.own xa) xa = none
      rw [upd_ne (Ne.symm hne)]
      exact hB1
    · cases out with
      | imm hv =>
        cases hv
        refine ⟨rfl, ?_⟩
        obtain ⟨h7, ho', o2, h8, h9, h10⟩ := io xa rfl
        cases h8
        have R' : Rel X.K F B' ad env σ H' := R.callee (x0.trans xx) (fun a u e => by
          rcases fr a u e with z | z
          · by_cases w : a = dx
            · right
              rw [w]
              exact h2
            · left
              have z : upd B dx (.own xa) a = some u := z
              rw [upd_ne w] at z
              exact z
          · right
            have z : upd (upd H dx (.own xa)) xa (.ins (He.ga X.K x) dx []) a = none := z
            by_cases w : a = xa
            · rw [w]
              exact h1
            · rw [upd_ne w] at z
              by_cases w2 : a = dx
              · rw [w2]
                exact h2
              · rw [upd_ne w2] at z
                exact z) x2 fun a u e => kp a u (fun z => by
            rw [← Option.some.inj z, h1] at e
            cases e) (by
            show upd (upd H dx (.own xa)) xa (.ins (He.ga X.K x) dx []) a = some u
            have w1 : a ≠ xa := fun w => by rw [w, h1] at e; cases e
            have w2 : a ≠ dx := fun w => by rw [w, h2] at e; cases e
            rw [upd_ne w1, upd_ne w2]
            exact e)
        exact q _ B' H' (x0.trans xx) R' (.own h9 h10 h7 (R.fresh h1) fun j o g => R.ne h1 g)
  · cases e
end
end Z
/-! Zm: the text against the small language: what matches does what is told. -/
namespace Z
open PySem PySem.Spec PyProof.Rows L2
open Evl (Ex ex_rd ex_l ex_t)
/-! ### names -/
def notDbg (x : Str) : Bool := (x == ("__debug__" : Str)) == false && (x == ("__classdict__" : Str)) == false
def visB (N : List Str) (sc : Scope) (i : Nat) (x : Str) : Bool :=
  notDbg x && (N[i]? == some x) && (match sc.names.lookup x with | some .local | some .cell | some .free => true | _ => false)
def globB (sc : Scope) (x : Str) : Bool := notDbg x && (match sc.names.lookup x with | some .globalImplicit => true | _ => false)
def locB (N : List Str) (sc : Scope) (i : Nat) (x : Str) : Bool :=
  (N[i]? == some x) && (match sc.names.lookup x with | some .local | some .cell => true | _ => false)
def locOnly (sc : Scope) (x : Str) : Bool := match sc.names.lookup x with | some .local => true | _ => false
def celOnly (sc : Scope) (x : Str) : Bool := match sc.names.lookup x with | some .cell => true | _ => false
def isOpr : Operator → Op2 → Bool
  | .Add, .add | .Sub, .sub | .Mult, .mul | .FloorDiv, .fdiv | .Mod, .mod | .Pow, .pow | .LShift, .shl | .RShift, .shr | .BitAnd, .band | .BitXor, .bxor | .BitOr, .bor => true
  | _, _ => false
def isCm : CmpOp → Cm → Bool
  | .Eq, .eq | .NotEq, .ne | .Lt, .lt | .LtE, .le | .Gt, .gt | .GtE, .ge | .In, .in_ | .NotIn, .nin | .Is, .is | .IsNot, .isn => true
  | _, _ => false
def isBop : BoolOp → Bool → Bool
  | .And, true | .Or, false => true
  | _, _ => false
def hidB (N : List Str) (sc : Scope) (b : Nat) : Bool := (N.drop b).all fun x => match sc.names.lookup x with | some .local | some .cell | some .free => false | _ => true
def hasMs (tb : Tb) (f : Nat) (c m : Str) : Bool := tb.ms.any fun p => decide (p.1 = f) && (p.2.1 == c && p.2.2 == m)
def hasFl (tb : Tb) (c f : Str) : Bool := tb.fl.any fun p => p.1 == c && p.2 == f
theorem hasMs_ok {tb : Tb} {f : Nat} {c m : Str} (h : hasMs tb f c m = true) : (f, c, m) ∈ tb.ms := by
  unfold hasMs at h
  rw [List.any_eq_true] at h
  obtain ⟨⟨a, b, d⟩, h1, h2⟩ := h
  simp only [Bool.and_eq_true, decide_eq_true_eq] at h2
  obtain ⟨rfl, h3, h4⟩ := h2
  rw [← eq_of_beq h3, ← eq_of_beq h4]
  exact h1
theorem hasFl_ok {tb : Tb} {c f : Str} (h : hasFl tb c f = true) : (c, f) ∈ tb.fl := by
  unfold hasFl at h
  rw [List.any_eq_true] at h
  obtain ⟨⟨a, b⟩, h1, h2⟩ := h
  simp only [Bool.and_eq_true] at h2
  rw [← eq_of_beq h2.1, ← eq_of_beq h2.2]
  exact h1
def hasMk (tb : Tb) (c : Str) : Bool := tb.mks.any fun x => x == c
theorem hasMk_ok {tb : Tb} {c : Str} (h : hasMk tb c = true) : c ∈ tb.mks := by
  unfold hasMk at h
  rw [List.any_eq_true] at h
  obtain ⟨a, h1, h2⟩ := h
  rw [← eq_of_beq h2]
  exact h1
def hasNb (tb : Tb) (x : Str) : Bool := tb.nb.any fun y => y == x
mutual
def isE (tb : Tb) (N : List Str) : E → Scope → Expr → Bool
  | .v i, sc, ex => match ex with
    | .Name x _ => visB N sc i x
    | _ => false
  | .int i, _, ex => match ex with
    | .Constant (.int j) _ _ => decide (i = j)
    | _ => false
  | .str s, _, ex => match ex with
    | .Constant (.str t) _ _ => s == t
    | _ => false
  | .bl b, _, ex => match ex with
    | .Constant (.bool c) _ _ => b == c
    | _ => false
  | .non, _, ex => match ex with
    | .Constant .none _ _ => true
    | _ => false
  | .gl x v, sc, ex => match ex with
    | .Name y _ => x == y && globB sc y && tb.gc.any fun p => p.1 == x && decide (p.2 = v)
    | _ => false
  | .op o a b, sc, ex => match ex with
    | .BinOp l op r _ => isOpr op o && isE tb N a sc l && isE tb N b sc r
    | _ => false
  | .neg a, sc, ex => match ex with
    | .UnaryOp .USub x _ => isE tb N a sc x
    | _ => false
  | .cmp o a b, sc, ex => match ex with
    | .Compare l [op] [r] _ => isCm op o && ordB r && isE tb N a sc l && isE tb N b sc r
    | _ => false
  | .not a, sc, ex => match ex with
    | .UnaryOp .Not x _ => isE tb N a sc x
    | _ => false
  | .bop k es, sc, ex => match ex with
    | .BoolOp op (x :: xs) _ => isBop op k && isEs tb N es sc (x :: xs)
    | _ => false
  | .ite c a b, sc, ex => match ex with
    | .IfExp t l r _ => isE tb N c sc t && isE tb N a sc l && isE tb N b sc r
    | _ => false
  | .lst es, sc, ex => match ex with
    | .List xs _ => isEs tb N es sc xs
    | _ => false
  | .tup es, sc, ex => match ex with
    | .Tuple xs _ _ => isEs tb N es sc xs
    | _ => false
  | .call f es, sc, ex => match ex with
    | .Call (.Name x _) xs [] _ => (tb.fn[f]? == some x) && (tb.np[f]? == some xs.length) && globB sc x && isEs tb N es sc xs
    | _ => false
  | .callIO f i es, sc, ex => match ex with
    | .Call (.Name x _) (.Name y _ :: xs) [] _ => (tb.fn[f]? == some x) && (tb.np[f]? == some (xs.length + 1)) && globB sc x && visB N sc i y && isEs tb N es sc xs
    | _ => false
  | .bi b es, sc, ex => match ex with
    | .Call (.Name x _) (y :: ys) [] _ => x == biName b && hasNb tb x && globB sc x && isEs tb N es sc (y :: ys)
    | _ => false
  | .isi a t, sc, ex => match ex with
    | .Call (.Name x _) [y, .Name z _] [] _ => x == ("isinstance" : Str) && z == Str.ofString (tyName t) && hasNb tb x && hasNb tb z && globB sc x && globB sc z && ordB y && isE tb N a sc y
    | _ => false
  | .lenv i, sc, ex => match ex with
    | .Call (.Name x _) [.Name y _] [] _ => x == ("len" : Str) && hasNb tb x && globB sc x && visB N sc i y
    | _ => false
  | .ixv i e, sc, ex => match ex with
    | .Subscript (.Name y _) k _ => ordB k && visB N sc i y && isE tb N e sc k
    | _ => false
  | .slv i lo hi, sc, ex => match ex with
    | .Subscript (.Name y _) (.Slice l h none _) _ => visB N sc i y && isPart tb N lo sc l && isPart tb N hi sc h
    | _ => false
  | .ix a i, sc, ex => match ex with
    | .Subscript x k _ => ordB k && isE tb N a sc x && isE tb N i sc k
    | _ => false
  | .sl a lo hi, sc, ex => match ex with
    | .Subscript x (.Slice l h none _) _ => isE tb N a sc x && isPart tb N lo sc l && isPart tb N hi sc h
    | _ => false
  | .comp elt j src ifs, sc, ex => match ex with
    | .ListComp x [⟨.Name y _, iter, ts, 0⟩] scope _ => isI tb N src sc none iter && ordB iter && blkC N sc scope [(y, j)] && (N[j]? == some y) && locOnly (relS scope sc) y && isE tb N elt (relS scope sc) x && isTs tb N ifs (relS scope sc) ts
    | _ => false
  | .popv i, sc, ex => match ex with
    | .Call (.Attribute (.Name y _) m ap) [] [] cp => m == ("pop" : Str) && (ap.endLine == cp.line) && visB N sc i y
    | _ => false
  | .me m o a, sc, ex => match ex with
    | .Call (.Attribute x n ap) [y] [] cp => n == m.nm && (ap.endLine == cp.line) && ordB x && ordB y && isE tb N o sc x && isE tb N a sc y
    | _ => false
  | .rev a, sc, ex => match ex with
    | .Subscript x (.Slice none none (some (.UnaryOp .USub (.Constant (.int j) _ _) _)) _) _ => decide (j = 1) && isE tb N a sc x
    | _ => false
  | .topN i, sc, ex => match ex with
    | .Subscript (.Subscript (.Name y _) (.UnaryOp .USub (.Constant (.int j) _ _) _) _) (.Constant (.int l) _ _) _ => decide (j = 1) && decide (l = 0) && visB N sc i y
    | _ => false
  | .topLen i, sc, ex => match ex with
    | .Call (.Name x _) [.Subscript (.Subscript (.Name y _) (.UnaryOp .USub (.Constant (.int j) _ _) _) _) (.Constant (.int l) _ _) _] [] _ => x == ("len" : Str) && hasNb tb x && globB sc x && decide (j = 1) && decide (l = 1) && visB N sc i y
    | _ => false
  | .popT i, sc, ex => match ex with
    | .Call (.Name x _) [.Subscript (.Call (.Attribute (.Name y _) m ap) [] [] cp) (.Constant (.int l) _ _) _] [] _ => x == ("tuple" : Str) && hasNb tb x && globB sc x && m == ("pop" : Str) && (ap.endLine == cp.line) && decide (l = 1) && visB N sc i y
    | _ => false
  | .fld i c f, sc, ex => match ex with
    | .Attribute (.Name y _) g _ => g == f && hasFl tb c f && visB N sc i y
    | _ => false
  | .new f c, sc, ex => match ex with
    | .Call (.Name x _) [] [] _ => x == c && hasMs tb f c ("__init__" : Str) && hasMk tb c && (tb.np[f]? == some 1) && globB sc x
    | _ => false
  | .meth f i c m es, sc, ex => match ex with
    | .Call (.Attribute (.Name y _) g ap) xs [] cp => g == m && hasMs tb f c m && (m == ("__init__" : Str)) == false && (ap.endLine == cp.line) && decide (xs.length < 29) && (tb.np[f]? == some (xs.length + 1)) && visB N sc i y && isEs tb N es sc xs
    | _ => false
def isEs (tb : Tb) (N : List Str) : Es → Scope → List Expr → Bool
  | .nil, _, [] => true
  | .cons e es, sc, x :: xs => ordB x && isE tb N e sc x && isEs tb N es sc xs
  | _, _, _ => false
def isTs (tb : Tb) (N : List Str) : Es → Scope → List Expr → Bool
  | .nil, _, [] => true
  | .cons e .nil, sc, [x] => isE tb N e sc x
  | _, _, _ => false
def isPart (tb : Tb) (N : List Str) : Es → Scope → Option Expr → Bool
  | .nil, _, none => true
  | .cons e .nil, sc, some x => isE tb N e sc x
  | _, _, _ => false
def isI (tb : Tb) (N : List Str) : I → Scope → Option (List Expr) → Expr → Bool
  | .it e, sc, _, x => isE tb N e sc x
  | .rng1 a, sc, _, ex => match ex with
    | .Call (.Name x _) [p] [] _ => x == ("range" : Str) && hasNb tb x && globB sc x && ordB p && isE tb N a sc p
    | _ => false
  | .rng2 a b, sc, _, ex => match ex with
    | .Call (.Name x _) [p, q] [] _ => x == ("range" : Str) && hasNb tb x && globB sc x && ordB p && ordB q && isE tb N a sc p && isE tb N b sc q
    | _ => false
  | .rng3 a b c, sc, _, ex => match ex with
    | .Call (.Name x _) [p, q, r] [] _ => x == ("range" : Str) && hasNb tb x && globB sc x && ordB p && ordB q && ordB r && isE tb N a sc p && isE tb N b sc q && isE tb N c sc r
    | _ => false
  | .enu e, sc, o, ex => match o, ex with
    | some _, .Call (.Name x _) [p] [] _ => x == ("enumerate" : Str) && hasNb tb x && globB sc x && ordB p && isE tb N e sc p
    | _, _ => false
end
/-- a tuple's targets, plain names -/
def isNames (N : List Str) (sc : Scope) : List Nat → List Expr → Bool
  | [], [] => true
  | i :: is, .Name x _ :: xs => locB N sc i x && isNames N sc is xs
  | _, _ => false
def notTup : Expr → Bool
  | .Tuple .. => false
  | _ => true
def badNil : S → Ss → Bool
  | .bad, .nil => true
  | _, _ => false
mutual
def isS (tb : Tb) (N : List Str) (sc : Scope) : S → Stmt → Bool
  | .asg i e, ex => match ex with
    | .Assign [.Name x px] v pos => locB N sc i x && isE tb N e sc v &&
    (match v with
      | .ListComp x2 gs scope cp => celOnly sc x || (locOnly sc x && (px.line == cp.line) && (scope.names.any fun (n, k) => n == x && (k == .local || k == .cell)) == false)
      | w => !cmpB w)
    | _ => false
  | .asgT is e, ex => match ex with
    | .Assign [.Tuple xs _ _] v _ => isNames N sc is xs && notTup v && !cmpB v && isE tb N e sc v
    | _ => false
  | .setix i k e, ex => match ex with
    | .Assign [.Subscript (.Name x _) y _] v _ => visB N sc i x && ordB y && !cmpB v && isE tb N k sc y && isE tb N e sc v
    | _ => false
  | .app i e, ex => match ex with
    | .Expr (.Call (.Attribute (.Name x _) m ap) [v] [] cp) _ => m == ("append" : Str) && (ap.endLine == cp.line) && ordB v && visB N sc i x && isE tb N e sc v
    | _ => false
  | .ext i e, ex => match ex with
    | .Expr (.Call (.Attribute (.Name x _) m ap) [v] [] cp) _ => m == ("extend" : Str) && (ap.endLine == cp.line) && ordB v && visB N sc i x && isE tb N e sc v
    | _ => false
  | .expr e, ex => match ex with
    | .Expr v _ => !cmpB v && isE tb N e sc v
    | _ => false
  | .ret e, ex => match ex with
    | .Return (some v) _ => isE tb N e sc v
    | _ => false
  | .retN, ex => match ex with
    | .Return none _ => true
    | _ => false
  | .ife c a b, ex => match ex with
    | .If t x y _ => isE tb N c sc t && isSs tb N sc a x && isSs tb N sc b y
    | _ => false
  | .for_ i src b, ex => match ex with
    | .For (.Name x _) iter y [] _ => locB N sc i x && ordB iter && isI tb N src sc none iter && isSs tb N sc b y
    | _ => false
  | .forT is src b, ex => match ex with
    | .For (.Tuple xs _ _) iter y [] _ => isNames N sc is xs && ordB iter && isI tb N src sc (some []) iter && isSs tb N sc b y
    | _ => false
  | .while_ c b, ex => match ex with
    | .While t y [] _ => isE tb N c sc t && isSs tb N sc b y
    | _ => false
  | .brk, ex => match ex with
    | .Break _ => true
    | _ => false
  | .cont, ex => match ex with
    | .Continue _ => true
    | _ => false
  | .pass, ex => match ex with
    | .Pass _ => true
    | _ => false
  | .bad, _ => true
  | .mk i _, ex => match ex with
    | .Assign [.Name x _] (.List [] _) _ => locB N sc i x
    | _ => false
  | .push i b e, ex => match e with
    | .v j => match ex with
      | .Expr (.Call (.Attribute (.Name x _) m ap) [.Tuple [.Name y _, .List [] _] _ _] [] cp) _ => m == ("append" : Str) && (ap.endLine == cp.line) && hidB N sc b && visB N sc i x && visB N sc j y
      | _ => false
    | _ => false
  | .topApp i j, ex => match ex with
    | .Expr (.Call (.Attribute (.Subscript (.Subscript (.Name x _) (.UnaryOp .USub (.Constant (.int l) _ _) _) _) (.Constant (.int r) _ _) _) m ap) [.Name y _] [] cp) _ => m == ("append" : Str) && (ap.endLine == cp.line) && decide (l = 1) && decide (r = 1) && visB N sc i x && visB N sc j y
    | _ => false
  | .setf i c f e, ex => match ex with
    | .Assign [.Attribute (.Name x _) g _] v _ => g == f && hasFl tb c f && visB N sc i x && !cmpB v && isE tb N e sc v
    | _ => false
def isSs (tb : Tb) (N : List Str) (sc : Scope) : Ss → List Stmt → Bool
  | .nil, xs => xs.isEmpty
  | .cons s ss, xs => match badNil s ss with
    | true => true
    | false => match xs with
      | x :: r => isS tb N sc s x && isSs tb N sc ss r
      | [] => false
end
section
variable {tb : Tb} {k : Nat} {N : List Str}
theorem vis_pv {X : Cx} (C : Bx tb k N X) {i : Nat} {x : Str} {p : Pos} (h : visB N X.env.scope i x = true) : PE X (.Name x p) (tVar i) := by
  unfold visB notDbg at h
  simp only [Bool.and_eq_true, beq_iff_eq] at h
  obtain ⟨⟨⟨h1, h2⟩, h3⟩, h4⟩ := h
  refine pe_var (i := i) (by rw [C.hN]; exact h3) ?_ h1 h2
  unfold Vis
  split at h4
  · left; assumption
  · right; left; assumption
  · right; right; assumption
  · cases h4
theorem hid_ok {X : Cx} (C : Bx tb k N X) {b : Nat} (h : hidB N X.env.scope b = true) : ∀ j x, b ≤ j → X.N[j]? = some x → ¬ Vis X.env.scope x := fun j x hj hx hv => by
  unfold hidB at h
  rw [List.all_eq_true] at h
  rw [C.hN] at hx
  have hm : x ∈ N.drop b := by
    have : (N.drop b)[j - b]? = some x := by
      rw [List.getElem?_drop]
      have : b + (j - b) = j := by omega
      rw [this]
      exact hx
    exact List.mem_of_getElem? this
  have := h x hm
  unfold Vis at hv
  rcases hv with hv | hv | hv <;> rw [hv] at this <;> cases this
theorem glob_gl {X : Cx} {x : Str} (h : globB X.env.scope x = true) : Gl X x ∧ (x == ("__debug__" : Str)) = false := by
  unfold globB notDbg at h
  simp only [Bool.and_eq_true, beq_iff_eq] at h
  obtain ⟨⟨h1, h2⟩, h4⟩ := h
  refine ⟨?_, h1⟩
  show X.env.scope.names.lookup x = some .globalImplicit
  split at h4
  · assumption
  · cases h4
theorem nb_mg {X : Cx} (C : Bx tb k N X) {x : Str} (h : hasNb tb x = true) : X.mg x = none := by
  unfold hasNb at h
  rw [List.any_eq_true] at h
  obtain ⟨y, h1, h2⟩ := h
  rw [← eq_of_beq h2]
  exact C.nb y h1
theorem opr_eq {op : Operator} {o : Op2} (h : isOpr op o = true) : op = opOf o := by
  unfold isOpr at h
  split at h <;> first | rfl | cases h
theorem cm_eq {op : CmpOp} {o : Cm} (h : isCm op o = true) : op = cmOf o := by
  unfold isCm at h
  split at h <;> first | rfl | cases h
theorem bop_eq {op : BoolOp} {b : Bool} (h : isBop op b = true) : op = if b then .And else .Or := by
  unfold isBop at h
  split at h <;> first | rfl | cases h
theorem ty_pe {X : Cx} (C : Bx tb k N X) {t : Ty} {p : Pos} (h : globB X.env.scope (Str.ofString (tyName t)) = true) (hm : hasNb tb (Str.ofString (tyName t)) = true) : PE X (.Name (Str.ofString (tyName t)) p) (tC (.ty (tyName t))) := by
  obtain ⟨hg, hd⟩ := glob_gl h
  refine pe_bltn (u := .type (tyName t)) hg (nb_mg C hm) ?_ rfl ?_ hd
  · cases t <;> decide +kernel
  · cases t <;> decide
abbrev GoodE (tb : Tb) (k : Nat) (N : List Str) (e' : E) : Prop := ∀ (X : Cx) (e : Expr), Bx tb k N X → isE tb N e' X.env.scope e = true → PE X e (rE X.K (evE (run tb.T k) e').e) ∧ PT X e (rT X.K (evE (run tb.T k) e').t)
theorem mE_ok {X : Cx} {e : Expr} {f : ME} (hv : valB e = true) (h : PE X e (rE X.K f)) : PE X e (rE X.K (mE f).e) ∧ PT X e (rT X.K (mE f).t) := ⟨h, s_test hv h⟩
theorem isEs_len : ∀ {es : Es} {sc : Scope} {xs : List Expr}, isEs tb N es sc xs = true → ∀ {Γ : Fn} {env : Env} {ds : List D} {env' : Env}, (evEs Γ es).es env = some (ds, env') → ds.length = xs.length
  | .nil, _, [], _, _, _, _, _, e => by cases e; rfl
  | .nil, _, _ :: _, h, _, _, _, _, _ => by cases h
  | .cons e es, sc, [], h, _, _, _, _, _ => by cases h
  | .cons e es, sc, x :: xs, h, Γ, env, ds, env', ev => by
    unfold isEs at h
    simp only [Bool.and_eq_true] at h
    obtain ⟨d, env1, ds', _, h2, rfl⟩ := esCons_some ev
    rw [List.length_cons, List.length_cons, isEs_len h.2 h2]
theorem isEs_ord : ∀ {es : Es} {sc : Scope} {xs : List Expr}, isEs tb N es sc xs = true → xs.all ordB = true
  | .nil, _, [], _ => rfl
  | .nil, _, _ :: _, h => by cases h
  | .cons e es, sc, [], h => by cases h
  | .cons e es, sc, x :: xs, h => by
    unfold isEs at h
    simp only [Bool.and_eq_true] at h
    rw [List.all_cons, h.1.1, isEs_ord h.2]
    rfl
end
end Z
/-! Zn: soundness of the matching. -/
namespace Z
open PySem PySem.Spec PyProof.Rows L2
open Evl (Ex ex_rd ex_l ex_t)
section
variable {tb : Tb} {k : Nat} {N : List Str}
/-- what is shown of expressions in a row -/
structure GoodEs (tb : Tb) (k : Nat) (N : List Str) (es' : Es) : Prop where
  es : ∀ (X : Cx) (es : List Expr), Bx tb k N X → isEs tb N es' X.env.scope es = true → PA X es (rA X.K (evEs (run tb.T k) es').es)
  b : ∀ (X : Cx) (kk : Bool) (e : Expr) (es : List Expr) (pos : Pos), Bx tb k N X → isEs tb N es' X.env.scope (e :: es) = true →
    PE X (.BoolOp (if kk then .And else .Or) (e :: es) pos) (rE X.K ((evEs (run tb.T k) es').b kk)) ∧ PW X (.BoolOp (if kk then .And else .Or) (e :: es) pos) (rT X.K ((evEs (run tb.T k) es').tb kk))
  ts : ∀ (X : Cx) (es : List Expr), Bx tb k N X → isTs tb N es' X.env.scope es = true → PTs X es (rT X.K (evEs (run tb.T k) es').ts)
  p : ∀ (X : Cx) (e : Option Expr), Bx tb k N X → isPart tb N es' X.env.scope e = true → PO X e (rP X.K (evEs (run tb.T k) es').p)
abbrev GoodI (tb : Tb) (k : Nat) (N : List Str) (i' : I) : Prop := ∀ (X : Cx) (o : Option (List Expr)) (tg e : Expr), Bx tb k N X → (∀ l, o = some l → ∃ es kk p, tg = .Tuple es kk p) → isI tb N i' X.env.scope o e = true → PI X tg e (rIt X.K (evI (run tb.T k) i'))
theorem tE_bool {K : PySem.W.Frag} {e : Expr} {X : Cx} (h : PE X e (rE X.K f)) : True := trivial
theorem pts_imp {X : Cx} {es : List Expr} {t t' : TT} (h : PTs X es t) (k : ∀ σ H Q, t' σ H Q → t σ H Q) : PTs X es t' := ⟨fun pins s σ H Q I q => h.run pins s σ H Q I (k σ H Q q)⟩
theorem rT_congr {K : PySem.W.Frag} {f g : MT} (h : ∀ env, f env = g env) : rT K f = rT K g := by
  have : f = g := funext h
  rw [this]
theorem false_of {b : Bool} {P : Prop} (h : b = true) (e : b = false) : P := by rw [e] at h; cases h
mutual
theorem okE : ∀ (e' : E), GoodE tb k N e'
  | .v i, X, e, C, h => by
    unfold isE at h
    split at h
    · have hv := vis_pv C (p := ‹Pos›) h
      exact ⟨s_var hv, s_testV hv⟩
    · cases h
  | .int i, X, e, C, h => by
    unfold isE at h
    split at h
    · rw [of_decide_eq_true h]
      exact mE_ok rfl (s_const pe_int fun B => .int _)
    · cases h
  | .str s, X, e, C, h => by
    unfold isE at h
    split at h
    · rw [eq_of_beq h]
      exact mE_ok rfl (s_const pe_str fun B => .str _)
    · cases h
  | .bl b, X, e, C, h => by
    unfold isE at h
    split at h
    · rw [eq_of_beq h]
      exact mE_ok rfl (s_const pe_bl fun B => .bl _)
    · cases h
  | .non, X, e, C, h => by
    unfold isE at h
    split at h
    · exact mE_ok rfl (s_const pe_non fun B => .non)
    · cases h
  | .gl x v, X, e, C, h => by
    unfold isE at h
    split at h
    · simp only [Bool.and_eq_true] at h
      obtain ⟨⟨h1, h2⟩, h3⟩ := h
      obtain ⟨hg, hd⟩ := glob_gl h2
      rw [List.any_eq_true] at h3
      obtain ⟨⟨y, w⟩, h4, h5⟩ := h3
      simp only [Bool.and_eq_true, decide_eq_true_eq] at h5
      obtain ⟨h5, rfl⟩ := h5
      have e1 := eq_of_beq h5
      have e2 := eq_of_beq h1
      subst e1
      subst e2
      obtain ⟨u, h6, h7⟩ := C.gc _ _ h4
      exact mE_ok rfl (s_gl (pe_glob hg h6 h7 hd))
    · cases h
  | .op o a b, X, e, C, h => by
    unfold isE at h
    split at h
    · simp only [Bool.and_eq_true] at h
      rw [opr_eq h.1.1]
      exact mE_ok rfl (s_op o (okE a X _ C h.1.2).1 (okE b X _ C h.2).1)
    · cases h
  | .neg a, X, e, C, h => by
    unfold isE at h
    split at h
    · exact mE_ok rfl (s_neg (okE a X _ C h).1)
    · cases h
  | .cmp o a b, X, e, C, h => by
    unfold isE at h
    split at h
    · simp only [Bool.and_eq_true] at h
      rw [cm_eq h.1.1.1]
      exact s_cmp o C.hu (fun op => ord_mark h.1.1.2 op) (okE a X _ C h.1.2).1 (okE b X _ C h.2).1
    · cases h
  | .not a, X, e, C, h => by
    unfold isE at h
    split at h
    · exact ⟨s_not (okE a X _ C h).1, s_tnot (okE a X _ C h).2⟩
    · cases h
  | .bop kk es, X, e, C, h => by
    unfold isE at h
    split at h
    · simp only [Bool.and_eq_true] at h
      rw [bop_eq h.1]
      have := (okEs es).b X kk _ _ ‹Pos› C h.2
      exact ⟨this.1, this.2.pt⟩
    · cases h
  | .ite c a b, X, e, C, h => by
    unfold isE at h
    split at h
    · simp only [Bool.and_eq_true] at h
      refine ⟨s_ite (okE c X _ C h.1.1).2 (okE a X _ C h.1.2).1 (okE b X _ C h.2).1, ⟨fun pins s σ H Q I q => ?_⟩⟩
      obtain ⟨F, B, ad, env, b, env', R, e, _⟩ := q
      cases e
    · cases h
  | .lst es, X, e, C, h => by
    unfold isE at h
    split at h
    · exact mE_ok rfl (s_lst ((okEs es).es X _ C h))
    · cases h
  | .tup es, X, e, C, h => by
    unfold isE at h
    split at h
    · exact mE_ok rfl (s_tup ((okEs es).es X _ C h))
    · cases h
  | .call f es, X, e, C, h => by
    unfold isE at h
    split at h
    · rename_i x p xs pos
      simp only [Bool.and_eq_true] at h
      obtain ⟨⟨⟨h1, h2⟩, h3⟩, h4⟩ := h
      obtain ⟨hg, hd⟩ := glob_gl h3
      have h1 := eq_of_beq h1
      have h2 := eq_of_beq h2
      cases xs with
      | nil =>
        have hA := (okEs es).es X [] C h4
        cases es with
        | nil => exact mE_ok rfl (s_call0 C h1 h2 hg hd)
        | cons _ _ => unfold isEs at h4; cases h4
      | cons y ys =>
        have ho := isEs_ord h4
        rw [List.all_cons, Bool.and_eq_true] at ho
        exact mE_ok rfl (s_call C h1 h2 rfl hg hd ho.1 ho.2 ((okEs es).es X _ C h4) fun env ds env' ev => isEs_len h4 ev)
    · cases h
  | .callIO f i es, X, e, C, h => by
    unfold isE at h
    split at h
    · simp only [Bool.and_eq_true] at h
      obtain ⟨⟨⟨⟨h1, h2⟩, h3⟩, h5⟩, h4⟩ := h
      obtain ⟨hg, hd⟩ := glob_gl h3
      exact mE_ok rfl (s_callIO C (eq_of_beq h1) (eq_of_beq h2) rfl hg hd (isEs_ord h4) (vis_pv C h5) ((okEs es).es X _ C h4) fun env ds env' ev => by rw [isEs_len h4 ev])
    · cases h
  | .bi b es, X, e, C, h => by
    unfold isE at h
    split at h
    · simp only [Bool.and_eq_true] at h
      obtain ⟨⟨⟨h1, h2⟩, h3⟩, h4⟩ := h
      have e1 := eq_of_beq h1
      subst e1
      obtain ⟨hg, hd⟩ := glob_gl h3
      have ho := isEs_ord h4
      rw [List.all_cons, Bool.and_eq_true] at ho
      exact mE_ok rfl (s_bi b C.calm hg (nb_mg C h2) ho.1 ho.2 ((okEs es).es X _ C h4))
    · cases h
  | .isi a t, X, e, C, h => by
    unfold isE at h
    split at h
    · simp only [Bool.and_eq_true] at h
      obtain ⟨⟨⟨⟨⟨⟨⟨h1, h2⟩, h3⟩, h4⟩, h5⟩, h6⟩, h7⟩, h8⟩ := h
      have e1 := eq_of_beq h1
      have e2 := eq_of_beq h2
      subst e1
      subst e2
      obtain ⟨hg, hd⟩ := glob_gl h5
      exact mE_ok rfl (s_isi hg (nb_mg C h3) (ty_pe C h6 h4) h7 (okE a X _ C h8).1)
    · cases h
  | .lenv i, X, e, C, h => by
    unfold isE at h
    split at h
    · simp only [Bool.and_eq_true] at h
      obtain ⟨⟨⟨h1, h2⟩, h3⟩, h4⟩ := h
      have e1 := eq_of_beq h1
      subst e1
      exact mE_ok rfl (s_lenv (glob_gl h3).1 (nb_mg C h2) (vis_pv C h4))
    · cases h
  | .ixv i a, X, e, C, h => by
    unfold isE at h
    split at h
    · simp only [Bool.and_eq_true] at h
      exact mE_ok rfl (s_ixv h.1.1 (vis_pv C h.1.2) (okE a X _ C h.2).1)
    · cases h
  | .slv i lo hi, X, e, C, h => by
    unfold isE at h
    split at h
    · simp only [Bool.and_eq_true] at h
      exact mE_ok rfl (s_slv (vis_pv C h.1.1) ((okEs lo).p X _ C h.1.2) ((okEs hi).p X _ C h.2))
    · cases h
  | .ix a i, X, e, C, h => by
    unfold isE at h
    split at h
    · simp only [Bool.and_eq_true] at h
      exact mE_ok rfl (s_ix h.1.1 (okE a X _ C h.1.2).1 (okE i X _ C h.2).1)
    · cases h
  | .sl a lo hi, X, e, C, h => by
    unfold isE at h
    split at h
    · simp only [Bool.and_eq_true] at h
      exact mE_ok rfl (s_sl (okE a X _ C h.1.1).1 ((okEs lo).p X _ C h.1.2) ((okEs hi).p X _ C h.2))
    · cases h
  | .comp elt j src ifs, X, e, C, h => by
    unfold isE at h
    split at h
    · rename_i x y yp iter ts scope pos
      simp only [Bool.and_eq_true] at h
      obtain ⟨⟨⟨⟨⟨⟨h1, h2⟩, h3⟩, h4⟩, h5⟩, h6⟩, h7⟩ := h
      have hy : (relS scope X.env.scope).names.lookup y = some .local := by
        unfold locOnly at h5
        split at h5
        · assumption
        · cases h5
      refine mE_ok rfl ((pe_lc (own := [(y, j)]) C.calm (by rw [C.hN]; exact C.nd) (okI src X none (.Name y yp) _ C (fun l z => nomatch z) h1) (by rw [C.hN]; exact blkOk_by h3) (fun s H cc cl fp => ?_) (fun s H cc cl fp => ?_) (fun s H cc cl fp => ?_) (fun w => ord_fold h2 w)).imp fun σ H Q q => s_compT q)
      · exact pg_name (i := j) (by rw [C.hN]; exact C.nd) (by rw [C.hN]; exact eq_of_beq h4) (.inl hy) (.inr hy)
      · exact (okEs ifs).ts (X.blk s H scope (compEnvC scope cl cc X.env) fp) ts (C.blk s H scope _ fp) h7
      · exact (okE elt (X.blk s H scope (compEnvC scope cl cc X.env) fp) x (C.blk s H scope _ fp) h6).1.v
    · cases h
  | .popv i, X, e, C, h => by
    unfold isE at h
    split at h
    · simp only [Bool.and_eq_true] at h
      have e1 := eq_of_beq h.1.1
      subst e1
      exact mE_ok rfl (s_popv h.1.2 (vis_pv C h.2))
    · cases h
  | .me m o a, X, e, C, h => by
    unfold isE at h
    split at h
    · simp only [Bool.and_eq_true] at h
      obtain ⟨⟨⟨⟨⟨h1, h2⟩, h3⟩, h4⟩, h5⟩, h6⟩ := h
      have e1 := eq_of_beq h1
      subst e1
      exact mE_ok rfl (s_me m h2 h3 h4 (okE o X _ C h5).1 (okE a X _ C h6).1)
    · cases h
  | .rev a, X, e, C, h => by
    unfold isE at h
    split at h
    · simp only [Bool.and_eq_true, decide_eq_true_eq] at h
      obtain ⟨rfl, h2⟩ := h
      exact mE_ok rfl (s_rev (okE a X _ C h2).1)
    · cases h
  | .topN i, X, e, C, h => by
    unfold isE at h
    split at h
    · simp only [Bool.and_eq_true, decide_eq_true_eq] at h
      obtain ⟨⟨rfl, rfl⟩, h2⟩ := h
      exact mE_ok rfl (s_topN (vis_pv C h2))
    · cases h
  | .topLen i, X, e, C, h => by
    unfold isE at h
    split at h
    · simp only [Bool.and_eq_true, decide_eq_true_eq] at h
      obtain ⟨⟨⟨⟨⟨h1, h2⟩, h3⟩, rfl⟩, rfl⟩, h4⟩ := h
      have e1 := eq_of_beq h1
      subst e1
      exact mE_ok rfl (s_topLen (glob_gl h3).1 (nb_mg C h2) (vis_pv C h4))
    · cases h
  | .popT i, X, e, C, h => by
    unfold isE at h
    split at h
    · simp only [Bool.and_eq_true, decide_eq_true_eq] at h
      obtain ⟨⟨⟨⟨⟨⟨h1, h2⟩, h3⟩, h5⟩, h6⟩, rfl⟩, h4⟩ := h
      have e1 := eq_of_beq h1
      have e2 := eq_of_beq h5
      subst e1
      subst e2
      exact mE_ok rfl (s_popT (glob_gl h3).1 (nb_mg C h2) h6 (vis_pv C h4))
    · cases h
  | .fld i c f, X, e, C, h => by
    unfold isE at h
    split at h
    · simp only [Bool.and_eq_true] at h
      obtain ⟨⟨h1, h2⟩, h3⟩ := h
      have e1 := eq_of_beq h1
      subst e1
      obtain ⟨g1, g2⟩ := C.cl.fl _ _ (hasFl_ok h2)
      exact mE_ok rfl (s_fld g1 g2 (vis_pv C h3))
    · cases h
  | .new f c, X, e, C, h => by
    unfold isE at h
    split at h
    · simp only [Bool.and_eq_true] at h
      obtain ⟨⟨⟨⟨h1, h2⟩, h3⟩, h4⟩, h5⟩ := h
      have e1 := eq_of_beq h1
      subst e1
      obtain ⟨hg, hd⟩ := glob_gl h5
      exact mE_ok rfl (s_new C (hasMs_ok h2) (eq_of_beq h4) (hasMk_ok h3) hg hd)
    · cases h
  | .meth f i c m es, X, e, C, h => by
    unfold isE at h
    split at h
    · simp only [Bool.and_eq_true, decide_eq_true_eq] at h
      obtain ⟨⟨⟨⟨⟨⟨⟨h1, h2⟩, h3⟩, h4⟩, h5⟩, h6⟩, h7⟩, h8⟩ := h
      have e1 := eq_of_beq h1
      subst e1
      refine mE_ok rfl (s_meth C (hasMs_ok h2) (eq_of_beq h3) h4 h5 (eq_of_beq h6) rfl (isEs_ord h8) (vis_pv C h7) ((okEs es).es X _ C h8) (fun env ds env' ev => by rw [isEs_len h8 ev]) fun hz env => ?_)
      subst hz
      cases es with
      | nil => rfl
      | cons _ _ => unfold isEs at h8; cases h8
    · cases h
theorem okEs : ∀ (es' : Es), GoodEs tb k N es'
  | .nil => by
    refine ⟨fun X es C h => ?_, fun X kk e es pos C h => ?_, fun X es C h => ?_, fun X e C h => ?_⟩
    · cases es with
      | nil => exact s_nil
      | cons x xs => simp [isEs] at h
    · simp [isEs] at h
    · cases es with
      | nil =>
        exact pts_imp pts_nil fun σ H Q q => by
          obtain ⟨F, B, ad, env, b, env', R, e, q⟩ := q
          cases e
          exact q B H (Ex.refl B) R
      | cons x xs => simp [isTs] at h
    · cases e with
      | none => exact s_pnone
      | some x => simp [isPart] at h
  | .cons e' es' => by
    have hE := okE e'
    have hEs := okEs es'
    refine ⟨fun X es C h => ?_, fun X kk e es pos C h => ?_, fun X es C h => ?_, fun X e C h => ?_⟩
    · cases es with
      | nil => unfold isEs at h; cases h
      | cons x xs =>
        unfold isEs at h
        simp only [Bool.and_eq_true] at h
        exact s_cons h.1.1 (hE X x C h.1.2).1 (hEs.es X xs C h.2)
    · unfold isEs at h
      simp only [Bool.and_eq_true] at h
      cases es' with
      | nil =>
        cases es with
        | nil =>
          refine ⟨?_, ?_⟩
          · cases kk with
            | true => exact pe_one (hE X e C h.1.2).1
            | false => exact pe_one (hE X e C h.1.2).1
          · cases kk with
            | true => exact pw_and1 (hE X e C h.1.2).2
            | false => exact pw_or1 (hE X e C h.1.2).2
        | cons x xs =>
          have := h.2
          unfold isEs at this
          cases this
      | cons e2 es2 =>
        cases es with
        | nil =>
          have := h.2
          unfold isEs at this
          cases this
        | cons x xs =>
          have r := hEs.b X kk x xs pos C h.2
          exact ⟨s_bcons (hE X e C h.1.2).1 r.1, s_tcons (hE X e C h.1.2).2 r.2⟩
    · cases es' with
      | cons _ _ => cases es <;> simp [isTs] at h
      | nil =>
        cases es with
        | nil => simp [isTs] at h
        | cons x xs =>
          cases xs with
          | cons _ _ => simp [isTs] at h
          | nil =>
            simp only [isTs] at h
            refine pts_imp (pts_one (hE X _ C h).2) fun σ H Q q => ?_
            obtain ⟨F, B, ad, env, b, env', R, e, q⟩ := q
            refine ⟨F, B, ad, env, b, env', R, ?_, q⟩
            change tsCons (evE (run tb.T k) e').t (fun env => some (true, env)) env = some (b, env') at e
            unfold tsCons at e
            split at e
            · rename_i e1
              cases e
              exact e1
            · rename_i e1
              cases e
              exact e1
            · cases e
    · cases es' with
      | cons _ _ => cases e <;> simp [isPart] at h
      | nil =>
        cases e with
        | none => simp [isPart] at h
        | some x =>
          simp only [isPart] at h
          exact s_psome (hE X _ C h).1
theorem okI : ∀ (i' : I), GoodI tb k N i'
  | .it e', X, o, tg, e, C, _, h => by
    unfold isI at h
    exact s_it (okE e' X e C h).1
  | .rng1 a, X, o, tg, e, C, _, h => by
    unfold isI at h
    split at h
    · simp only [Bool.and_eq_true] at h
      obtain ⟨⟨⟨⟨h1, h2⟩, h3⟩, h4⟩, h5⟩ := h
      have e1 := eq_of_beq h1
      subst e1
      exact s_rng1 (glob_gl h3).1 (nb_mg C h2) h4 (okE a X _ C h5).1
    · cases h
  | .rng2 a b, X, o, tg, e, C, _, h => by
    unfold isI at h
    split at h
    · simp only [Bool.and_eq_true] at h
      obtain ⟨⟨⟨⟨⟨⟨h1, h2⟩, h3⟩, h4⟩, h5⟩, h6⟩, h7⟩ := h
      have e1 := eq_of_beq h1
      subst e1
      exact s_rng2 (glob_gl h3).1 (nb_mg C h2) h4 h5 (okE a X _ C h6).1 (okE b X _ C h7).1
    · cases h
  | .rng3 a b c, X, o, tg, e, C, _, h => by
    unfold isI at h
    split at h
    · simp only [Bool.and_eq_true] at h
      obtain ⟨⟨⟨⟨⟨⟨⟨⟨h1, h2⟩, h3⟩, h4⟩, h5⟩, h6⟩, h7⟩, h8⟩, h9⟩ := h
      have e1 := eq_of_beq h1
      subst e1
      exact s_rng3 (glob_gl h3).1 (nb_mg C h2) h4 h5 h6 (okE a X _ C h7).1 (okE b X _ C h8).1 (okE c X _ C h9).1
    · cases h
  | .enu a, X, o, tg, e, C, ho, h => by
    unfold isI at h
    split at h
    · simp only [Bool.and_eq_true] at h
      obtain ⟨⟨⟨⟨h1, h2⟩, h3⟩, h4⟩, h5⟩ := h
      have e1 := eq_of_beq h1
      subst e1
      obtain ⟨es, kk, p, rfl⟩ := ho _ rfl
      exact s_enu (glob_gl h3).1 (nb_mg C h2) h4 (okE a X _ C h5).1
    · cases h
end
end
end Z
/-! Zo: statements that match; the defs of a text. -/
namespace Z
open PySem PySem.Spec PyProof.Rows L2
open Evl (Ex ex_rd ex_l ex_t)
section
variable {tb : Tb} {k : Nat} {N : List Str}
theorem loc_ok {X : Cx} (C : Bx tb k N X) {i : Nat} {x : Str} (h : locB N X.env.scope i x = true) : X.N[i]? = some x ∧ L2.Loc X.env.scope x := by
  unfold locB at h
  simp only [Bool.and_eq_true] at h
  refine ⟨by rw [C.hN]; exact eq_of_beq h.1, ?_⟩
  have h2 := h.2
  unfold L2.Loc
  split at h2
  · left; assumption
  · right; assumption
  · cases h2
theorem names_len : ∀ {is : List Nat} {xs : List Expr} {sc : Scope} {env : PySem.Env}, isNames N sc is xs = true → (assignEach xs env).length = is.length ∧ (assignEach xs env).all (fun p => !p.1) = true
  | [], [], _, _, _ => ⟨rfl, rfl⟩
  | [], _ :: _, _, _, h => by cases h
  | _ :: _, [], _, _, h => by cases h
  | i :: is, x :: xs, sc, env, h => by
    cases x with
    | Name y p =>
      simp only [isNames, Bool.and_eq_true] at h
      obtain ⟨a, b⟩ := names_len (env := env) h.2
      refine ⟨?_, ?_⟩
      · show (assignEach xs env).length + 1 = is.length + 1
        rw [a]
      · show (true && (assignEach xs env).all (fun p => !p.1)) = true
        rw [b]
        rfl
    | _ => simp [isNames] at h
theorem names_pgs {X : Cx} (C : Bx tb k N X) (hf : ∀ y, X.fn y = true) : ∀ {is : List Nat} {xs : List Expr}, isNames N X.env.scope is xs = true → PGs X xs (gNames is)
  | [], [], _ => pgs_nil
  | [], _ :: _, h => by cases h
  | _ :: _, [], h => by cases h
  | i :: is, x :: xs, h => by
    cases x with
    | Name y p =>
      simp only [isNames, Bool.and_eq_true] at h
      obtain ⟨a, b⟩ := loc_ok C h.1
      exact pgs_cons (pg_name (by rw [C.hN]; exact C.nd) a b (.inl (hf y))) (names_pgs C hf h.2)
    | _ => simp [isNames] at h
theorem names_pg {X : Cx} (C : Bx tb k N X) (hf : ∀ y, X.fn y = true) {is : List Nat} {xs : List Expr} {kk : Nat} {pos : Pos} (h : isNames N X.env.scope is xs = true) : PG X (.Tuple xs kk pos) (gTup X.K is.length (gNames is)) := by
  obtain ⟨a, b⟩ := names_len (env := X.env) h
  refine pg_tup C.calm (names_pgs C hf h) a ?_
  rw [List.findIdx?_eq_none_iff]
  intro p hp
  have := List.all_eq_true.mp b p hp
  simpa using this
theorem swapped_no {es : List Expr} {kk : Nat} {pos : Pos} {v : Expr} {env : PySem.Env} (h : notTup v = true) : swappedStores [.Tuple es kk pos] v env = pure none := by
  cases v <;> first | rfl | cases h
abbrev GoodS (tb : Tb) (k : Nat) (N : List Str) (s' : S) : Prop := ∀ (X : Cx) (s : Stmt), Bx tb k N X → (∀ y, X.fn y = true) → X.env.scope.kind = .function → isS tb N X.env.scope s' s = true → PS X s (rS X.K (evS (run tb.T k) s'))
abbrev GoodSs (tb : Tb) (k : Nat) (N : List Str) (s' : Ss) : Prop := ∀ (X : Cx) (s : List Stmt), Bx tb k N X → (∀ y, X.fn y = true) → X.env.scope.kind = .function → isSs tb N X.env.scope s' s = true → PSs X s (rS X.K (evSs (run tb.T k) s'))
theorem sw_cell {elt : Expr} {gs : List Comprehension} {scope : Scope} {pos py : Pos} {y : Str} {l : Nat} {env : PySem.Env} (hy : env.scope.names.lookup y = some .cell) : swapsWith (.ListComp elt gs scope pos) (some (.Name y py)) l env = pure false := by
  have ky : env.kindOf y = some .cell := hy
  have kb : (some NameKind.cell == some NameKind.local) = false := by decide
  unfold swapsWith
  simp only [ky, kb, Bool.and_false, Bool.false_and]
theorem nt {b : Bool} (h : (!b) = true) : b = false := by simpa using h
mutual
theorem okS : ∀ (s' : S), GoodS tb k N s'
  | .asg i e, X, s, C, hf, hk, h => by
    unfold isS at h
    split at h
    · rename_i x px v pos
      simp only [Bool.and_eq_true] at h
      obtain ⟨⟨h1, h2⟩, h3⟩ := h
      obtain ⟨a, b⟩ := loc_ok C h1
      split at h3
      · rename_i x2 gs scope cp
        rw [Bool.or_eq_true] at h3
        rcases h3 with h3 | h3
        · have hy : X.env.scope.names.lookup x = some .cell := by
            unfold celOnly at h3
            split at h3
            · assumption
            · cases h3
          exact (ps_set (by rw [C.hN]; exact C.nd) a b (okE e X _ C h2).1 (sw_cell hy) (.inl (hf x))).imp fun D σ H h => s_asg1 h
        simp only [Bool.and_eq_true] at h3
        obtain ⟨⟨h4, h5⟩, h6⟩ := h3
        have hy : X.env.scope.names.lookup x = some .local := by
          unfold locOnly at h4
          split at h4
          · assumption
          · cases h4
        have h7 : (scope.names.any fun (n, k) => n == x && (k == .local || k == .cell)) = false := by simpa using h6
        -- a comprehension given to a name
        cases e with
        | comp elt j src ifs =>
          have h2' := h2
          unfold isE at h2'
          split at h2'
          · rename_i hh
            simp only [Bool.and_eq_true] at h2'
            obtain ⟨⟨⟨⟨⟨⟨g1, g2⟩, g3⟩, g4⟩, g5⟩, g6⟩, g7⟩ := h2'
            rename_i x3 y yp iter ts scope2 pos2
            cases hh
            have hy2 : (relS scope X.env.scope).names.lookup y = some .local := by
              unfold locOnly at g5
              split at g5
              · assumption
              · cases g5
            refine (ps_setLc (i := i) (g := gName j) (tt := rT X.K (evEs (run tb.T k) ifs).ts) (te := rV X.K (evE (run tb.T k) elt).e) (own := [(y, j)]) C.calm (by rw [C.hN]; exact C.nd) a hy (sw_true hk hy h5 h7) (okI src X none (.Name y yp) _ C (fun l z => nomatch z) g1) (by rw [C.hN]; exact blkOk_by g3) (fun s H cc cl fp => ?_) (fun s H cc cl fp => ?_) (fun s H cc cl fp => ?_) (fun w => ord_fold g2 w)).imp fun D σ H q => ?_
            · exact pg_name (i := j) (by rw [C.hN]; exact C.nd) (by rw [C.hN]; exact eq_of_beq g4) (.inl hy2) (.inr hy2)
            · exact (okEs ifs).ts (X.blk s H scope (compEnvC scope cl cc X.env) fp) ts (C.blk s H scope _ fp) g7
            · exact (okE elt (X.blk s H scope (compEnvC scope cl cc X.env) fp) _ (C.blk s H scope _ fp) g6).1.v
            · exact s_compT (s_asg1 q)
          · cases h2'
        | _ => simp [isE] at h2
      · exact s_asg (by rw [C.hN]; exact C.nd) a b (.inl (hf x)) (nt h3) (okE e X v C h2).1
    · cases h
  | .asgT is e, X, s, C, hf, hk, h => by
    unfold isS at h
    split at h
    · simp only [Bool.and_eq_true] at h
      exact s_asgT (names_pg C hf h.1.1.1) (nt h.1.2) (swapped_no h.1.1.2) (okE e X _ C h.2).1
    · cases h
  | .setix i kx e, X, s, C, hf, hk, h => by
    unfold isS at h
    split at h
    · simp only [Bool.and_eq_true] at h
      exact s_setix (nt h.1.1.2) h.1.1.1.2 (vis_pv C h.1.1.1.1) (okE e X _ C h.2).1 (okE kx X _ C h.1.2).1
    · cases h
  | .app i e, X, s, C, hf, hk, h => by
    unfold isS at h
    split at h
    · simp only [Bool.and_eq_true] at h
      obtain ⟨⟨⟨⟨h1, h2⟩, h3⟩, h4⟩, h5⟩ := h
      have e1 := eq_of_beq h1
      subst e1
      exact s_app h2 h3 (vis_pv C h4) (okE e X _ C h5).1
    · cases h
  | .ext i e, X, s, C, hf, hk, h => by
    unfold isS at h
    split at h
    · simp only [Bool.and_eq_true] at h
      obtain ⟨⟨⟨⟨h1, h2⟩, h3⟩, h4⟩, h5⟩ := h
      have e1 := eq_of_beq h1
      subst e1
      exact s_ext h2 h3 (vis_pv C h4) (okE e X _ C h5).1
    · cases h
  | .expr e, X, s, C, hf, hk, h => by
    unfold isS at h
    split at h
    · simp only [Bool.and_eq_true] at h
      exact s_expr (nt h.1) (okE e X _ C h.2).1
    · cases h
  | .ret e, X, s, C, hf, hk, h => by
    unfold isS at h
    split at h
    · rename_i v pos
      cases e with
      | v i =>
        have h2 := h
        unfold isE at h2
        split at h2
        · exact s_retV (vis_pv C h2)
        · cases h2
      | _ => exact s_ret (okE _ X v C h).1
    · cases h
  | .retN, X, s, C, hf, hk, h => by
    unfold isS at h
    split at h
    · exact s_retN
    · cases h
  | .ife c a b, X, s, C, hf, hk, h => by
    unfold isS at h
    split at h
    · simp only [Bool.and_eq_true] at h
      exact s_if (okE c X _ C h.1.1).2 (okSs a X _ C hf hk h.1.2) (okSs b X _ C hf hk h.2)
    · cases h
  | .for_ i src b, X, s, C, hf, hk, h => by
    unfold isS at h
    split at h
    · rename_i x xp iter y pos
      simp only [Bool.and_eq_true] at h
      obtain ⟨a, b'⟩ := loc_ok C h.1.1.1
      exact s_forG C.hp C.calm (okI src X none (.Name x xp) _ C (fun l z => nomatch z) h.1.2) (pg_name (by rw [C.hN]; exact C.nd) a b' (.inl (hf x))) tgt_name (okSs b X _ C hf hk h.2) (fun w => ord_fold h.1.1.2 w)
    · cases h
  | .forT is src b, X, s, C, hf, hk, h => by
    unfold isS at h
    split at h
    · rename_i xs kk xp iter y pos
      simp only [Bool.and_eq_true] at h
      exact s_forG C.hp C.calm (okI src X (some []) (.Tuple xs kk xp) _ C (fun l z => ⟨xs, kk, xp, rfl⟩) h.1.2) (names_pg C hf h.1.1.1) tgt_tup (okSs b X _ C hf hk h.2) (fun w => ord_fold h.1.1.2 w)
    · cases h
  | .while_ c b, X, s, C, hf, hk, h => by
    unfold isS at h
    split at h
    · simp only [Bool.and_eq_true] at h
      exact s_while C.hp (okE c X _ C h.1).2 (okSs b X _ C hf hk h.2)
    · cases h
  | .brk, X, s, C, hf, hk, h => by
    unfold isS at h
    split at h
    · exact s_brk
    · cases h
  | .cont, X, s, C, hf, hk, h => by
    unfold isS at h
    split at h
    · exact s_cont
    · cases h
  | .pass, X, s, C, hf, hk, h => by
    unfold isS at h
    split at h
    · exact s_pass
    · cases h
  | .bad, X, s, C, hf, hk, h => s_bad
  | .mk i b, X, s, C, hf, hk, h => by
    unfold isS at h
    split at h
    · rename_i x px p pos
      obtain ⟨a, b'⟩ := loc_ok C h
      exact s_mk (by rw [C.hN]; exact C.nd) a b' (.inl (hf x))
    · cases h
  | .push i b e, X, s, C, hf, hk, h => by
    unfold isS at h
    cases e with
    | v j =>
      dsimp only at h
      split at h
      · simp only [Bool.and_eq_true] at h
        obtain ⟨⟨⟨⟨h1, h2⟩, h3⟩, h4⟩, h5⟩ := h
        have e1 := eq_of_beq h1
        subst e1
        exact s_push (hid_ok C h3) h2 rfl (vis_pv C h4) (s_var (vis_pv C h5)) fun env n env1 e b ns e1 => recv_v env n env1 e b ns e1
      · cases h
    | _ => cases h
  | .topApp i j, X, s, C, hf, hk, h => by
    unfold isS at h
    split at h
    · simp only [Bool.and_eq_true, decide_eq_true_eq] at h
      obtain ⟨⟨⟨⟨⟨h1, h2⟩, rfl⟩, rfl⟩, h4⟩, h5⟩ := h
      have e1 := eq_of_beq h1
      subst e1
      exact s_topApp h2 (vis_pv C h4) (vis_pv C h5)
    · cases h
  | .setf i c f e, X, s, C, hf, hk, h => by
    unfold isS at h
    split at h
    · simp only [Bool.and_eq_true] at h
      obtain ⟨⟨⟨⟨h1, h2⟩, h3⟩, h4⟩, h5⟩ := h
      have e1 := eq_of_beq h1
      subst e1
      obtain ⟨g1, g2⟩ := C.cl.fl _ _ (hasFl_ok h2)
      exact s_setf g1 g2 (nt h4) (vis_pv C h3) (okE e X _ C h5).1
    · cases h
theorem okSs : ∀ (s' : Ss), GoodSs tb k N s'
  | .nil, X, s, C, hf, hk, h => by
    cases s with
    | nil => exact s_snil
    | cons _ _ => cases h
  | .cons s' ss', X, s, C, hf, hk, h => by
    have hS := okS s'
    have hSs := okSs ss'
    unfold isSs at h
    split at h
    · rename_i hb
      have : s' = .bad ∧ ss' = .nil := by
        unfold badNil at hb
        split at hb
        · exact ⟨rfl, rfl⟩
        · cases hb
      obtain ⟨rfl, rfl⟩ := this
      exact s_badB
    · split at h
      · simp only [Bool.and_eq_true] at h
        exact s_scons (hS X _ C hf hk h.1) (hSs X _ C hf hk h.2)
      · cases h
end
/-- a def of the text keeps its promise at the next level -/
theorem def_ok {P : Program} {w : World} {K : PySem.W.Frag} {mg : Str → Option Value} {base : Heap} {x qual : Str} {st : Stmt} {f : Addr} {fd : FuncData} {ps : List Str} {body : Ss} (F : L2.Fun K x qual st f fd) (S : FnScope N ps (defScope st)) (hle : ps.length ≤ N.length)
    (hkind : (defScope st).kind = .function) (hm : isSs tb N (defScope st) body (defBody st) = true)
    (hcl : Clk tb K mg) (hnb : ∀ x ∈ tb.nb, mg x = none) (hgc : ∀ x v, (x, v) ∈ tb.gc → ∃ u, mg x = some u ∧ RelV v u)
    (hfn : ∀ (f : Nat) (n : Nat), tb.np[f]? = some n → ∃ a fd ps, ps.length = n ∧ Rch tb K mg f a ∧ PySem.W.keepIn K (.ref a) = true ∧ Binds K fd ps [] ∧ FnOk P w K mg base CX0 (2 * k) a fd ps (spF K n (run tb.T k f))) :
    FnOk P w K mg base CX0 (2 * (k + 1)) f fd ps (spF K ps.length (runD (run tb.T k) N.length body)) :=
  body_ok F S hle (fun X C hs hf _ _ _ _ _ => okSs body X _ C hf (by rw [hs]; exact hkind) (by rw [hs]; exact hm)) hcl hnb hgc hfn
/-- what is known of a def of the text -/
structure Dk (K : PySem.W.Frag) (mg : Str → Option Value) (tb : Tb) (f : Nat) : Prop where
  ok : ∃ (x q : Str) (st : Stmt) (a : Addr) (fd : FuncData) (N ps : List Str) (body : Ss), tb.np[f]? = some ps.length ∧ tb.T[f]? = some (.py N.length body) ∧ L2.Fun K x q st a fd ∧ FnScope N ps (defScope st) ∧ ps.length ≤ N.length ∧
    (defScope st).kind = .function ∧ isSs tb N (defScope st) body (defBody st) = true ∧ Rch tb K mg f a ∧ Binds K fd ps []
/-- all defs keep their promises, at every level -/
theorem all_ok {P : Program} {w : World} {K : PySem.W.Frag} {mg : Str → Option Value} {base : Heap} (hcl : Clk tb K mg) (hnb : ∀ x ∈ tb.nb, mg x = none) (hgc : ∀ x v, (x, v) ∈ tb.gc → ∃ u, mg x = some u ∧ RelV v u)
    (hd : ∀ (f n : Nat), tb.np[f]? = some n → Dk K mg tb f) :
    ∀ (k : Nat) (f : Nat) (n : Nat), tb.np[f]? = some n → ∃ a fd ps, ps.length = n ∧ Rch tb K mg f a ∧ PySem.W.keepIn K (.ref a) = true ∧ Binds K fd ps [] ∧ FnOk P w K mg base CX0 (2 * k) a fd ps (spF K n (run tb.T k f))
  | 0, f, n, hn => by
    obtain ⟨x', qq, st, a, fd, N, ps, body, h2, h3, h4, h5, h6, h7, h8, h9, h10⟩ := (hd f n hn).ok
    rw [hn] at h2
    cases h2
    refine ⟨a, fd, ps, rfl, h9, h4.kp, h10, ⟨fun vs H Q E h => ?_, fun A outer s H args us vs Q E _ _ _ _ h => ?_⟩⟩
    · obtain ⟨_, _, _, _, _, _, _, _, _, h, _⟩ := h
      cases h
    · obtain ⟨_, _, _, _, _, _, _, _, _, h, _⟩ := h
      cases h
  | k + 1, f, n, hn => by
    obtain ⟨x', qq, st, a, fd, N, ps, body, h2, h3, h4, h5, h6, h7, h8, h9, h10⟩ := (hd f n hn).ok
    rw [hn] at h2
    cases h2
    refine ⟨a, fd, ps, rfl, h9, h4.kp, h10, ?_⟩
    have hr : run tb.T (k + 1) f = runD (run tb.T k) N.length body := by
      show (match tb.T[f]? with | some (.py n body) => runD (run tb.T k) n body | some (.prim l g) => if l ≤ k then g else fun _ _ => none | none => fun _ _ => none) = _
      rw [h3]
    rw [hr]
    exact def_ok h4 h5 h6 h7 h8 hcl hnb hgc (all_ok hcl hnb hgc hd k)
end
end Z
/-! Zp: a def as the head tells of it; the law's end. -/
namespace Z
open PySem PySem.Spec PyProof.Rows L2
open Evl (Ex)
theorem fun_ofD {K : PySem.W.Frag} {x qual : Str} {st : Stmt} {f : Addr} {fd : FuncData} {kws : List (Str × V)} (F : FunD K x qual (defArgs st) (defBody st) (defScope st) [] kws f fd) : L2.Fun K x qual st f fd := by
  obtain ⟨oc, od, dV, kV, doc, pm, an, cdv, ct, osl, e, lk, hcd, hD, hK⟩ := F.ex
  rcases hD with ⟨_, rfl⟩ | ⟨z, _⟩
  · exact ⟨⟨oc, od, kV, doc, pm, an, cdv, ct, osl, e, lk, hcd⟩, F.kp⟩
  · exact absurd rfl z
theorem rch_fn {K : PySem.W.Frag} {mg : Str → Option Value} {tb : Tb} {f : Nat} {x : Str} {a : Addr} (h1 : tb.fn[f]? = some x) (h2 : mg x = some (.ref a)) (h3 : tb.ms.all (fun p => !decide (p.1 = f)) = true) : Rch tb K mg f a :=
  ⟨fun y e => by
    rw [h1] at e
    cases e
    exact h2, fun c m h => by
    have := List.all_eq_true.mp h3 _ h
    simp at this⟩
theorem rch_ms {K : PySem.W.Frag} {mg : Str → Option Value} {tb : Tb} {f : Nat} {c m : Str} (h1 : tb.fn[f]? = none) (h3 : tb.ms.all (fun p => !decide (p.1 = f) || (p.2.1 == c && p.2.2 == m)) = true) : Rch tb K mg f (He.ma K (He.ga K c) m) :=
  ⟨fun y e => (by
    rw [h1] at e
    cases e), fun c' m' h => by
    have := List.all_eq_true.mp h3 _ h
    simp at this
    rw [this.1, this.2]⟩
theorem dk_mk {K : PySem.W.Frag} {mg : Str → Option Value} {tb : Tb} {f : Nat} {x q : Str} {st : Stmt} {a : Addr} {N ps : List Str} {body : Ss} (hF : ∃ fd, FunD K x q (defArgs st) (defBody st) (defScope st) [] [] a fd)  (h2 : tb.np[f]? = some ps.length)
    (h3 : tb.T[f]? = some (.py N.length body)) (h5 : FnScope N ps (defScope st)) (h6 : ps.length ≤ N.length) (h7 : (defScope st).kind = .function) (h8 : isSs tb N (defScope st) body (defBody st) = true) (h9 : Rch tb K mg f a)
    (h10 : ∀ (kV doc pm : Value) (an : Option Addr) (cdv ct : Value) (us : List Value), us.length = ps.length → bindArgs (PySem.W.fnOf x q (defArgs st) (defBody st) (defScope st) .none kV doc pm an cdv ct) ⟨us, []⟩ = pure (ps.zip us)) : Dk K mg tb f := by
  obtain ⟨fd, F⟩ := hF
  exact ⟨x, q, st, a, fd, N, ps, body, h2, h3, fun_ofD F, h5, h6, h7, h8, h9, F.bindsN h10⟩
/-- the law's promise, from what it computes -/
theorem law_sp {K : PySem.W.Frag} {g : Fun1} {ns : List Int} {H : Hp} {a : Addr} {E : XK} (h : g none [scrD ns] = some (.imm (.bool true), none)) (hS : SqL K H a (ns.map V.int)) : spF K 1 g [.ref a] H (fun v _ => v = .bl true) E := by
  refine ⟨⟨H, H, none⟩, none, [scrD ns], _, none, rfl, rfl, Ex.refl H, .no rfl (.cons (.scr hS) .nil), h, fun v B' H' _ _ _ _ _ out => ?_⟩
  cases out with
  | imm h => exact dp_bool h
end Z
/-! Zq: running the small language by hand: weakest preconditions, loops by invariants. -/
namespace Z
open PySem PySem.Spec PyProof.Rows
/-- it ends, and so -/
def W {α : Type} (x : Option (α × Env)) (Φ : α → Env → Prop) : Prop := ∃ a e, x = some (a, e) ∧ Φ a e
theorem W.of {α : Type} {a : α} {e : Env} {Φ : α → Env → Prop} (h : Φ a e) : W (some (a, e)) Φ := ⟨a, e, rfl, h⟩
theorem W.eq {α : Type} {x : Option (α × Env)} {a : α} {e : Env} {Φ : α → Env → Prop} (hx : x = some (a, e)) (h : Φ a e) : W x Φ := ⟨a, e, hx, h⟩
theorem W.mono {α : Type} {x : Option (α × Env)} {Φ Ψ : α → Env → Prop} (h : W x Φ) (k : ∀ a e, Φ a e → Ψ a e) : W x Ψ := by
  obtain ⟨a, e, h1, h2⟩ := h
  exact ⟨a, e, h1, k a e h2⟩
/-- what is wanted behind a statement in a row -/
def Kn (m : MS) (Φ : Fl → Env → Prop) : Fl → Env → Prop
  | .next, e => W (m e) Φ
  | fl, e => Φ fl e
theorem W_seq {a b : MS} {env : Env} {Φ : Fl → Env → Prop} (h : W (a env) (Kn b Φ)) : W (sSeq a b env) Φ := by
  obtain ⟨fl, e, h1, h2⟩ := h
  unfold sSeq
  rw [h1]
  cases fl with
  | next => exact h2
  | brk => exact ⟨_, _, rfl, h2⟩
  | cont => exact ⟨_, _, rfl, h2⟩
  | ret r => exact ⟨_, _, rfl, h2⟩
section
variable {Γ : Fn} {s : S} {ss : Ss} {env env' : Env} {Φ : Fl → Env → Prop}
theorem W_cons (h : W (evS Γ s env) (Kn (evSs Γ ss) Φ)) : W (evSs Γ (.cons s ss) env) Φ := W_seq h
theorem W_next (h : evS Γ s env = some (.next, env')) (k : W (evSs Γ ss env') Φ) : W (evSs Γ (.cons s ss) env) Φ := W_cons ⟨_, _, h, k⟩
theorem W_nil (h : Φ .next env) : W (evSs Γ .nil env) Φ := ⟨_, _, rfl, h⟩
theorem W_ret {r : Res} (h : evS Γ s env = some (.ret r, env')) (k : Φ (.ret r) env') : W (evSs Γ (.cons s ss) env) Φ := W_cons ⟨_, _, h, k⟩
theorem W_brk (h : evS Γ s env = some (.brk, env')) (k : Φ .brk env') : W (evSs Γ (.cons s ss) env) Φ := W_cons ⟨_, _, h, k⟩
theorem W_if {c : E} {a b : Ss} {k : Bool} (h : (evE Γ c).t env = some (k, env')) (h1 : k = true → W (evSs Γ a env') Φ) (h2 : k = false → W (evSs Γ b env') Φ) : W (evS Γ (.ife c a b) env) Φ := by
  show W (sIf (evE Γ c).t (evSs Γ a) (evSs Γ b) env) Φ
  unfold sIf
  rw [h]
  cases k with
  | true => exact h1 rfl
  | false => exact h2 rfl
end
/-! ### loops -/
def Lp (P : Env → Prop) (Φ : Fl → Env → Prop) : Fl → Env → Prop
  | .next, e => P e
  | .cont, e => P e
  | .brk, e => Φ .next e
  | .ret r, e => Φ (.ret r) e
theorem W_forL {b : MS} {put : Env → D → Option Env} {Φ : Fl → Env → Prop} (P : Nat → Env → Prop) :
    ∀ (ds : List D) (n : Nat) {env : Env}, P n env → (∀ i d e, n ≤ i → ds[i - n]? = some d → P i e → ∃ e1, put e d = some e1 ∧ W (b e1) (Lp (P (i + 1)) Φ)) → (∀ e, P (n + ds.length) e → Φ .next e) → W (forL b put ds env) Φ
  | [], n, env, h0, _, hd => ⟨_, _, rfl, hd env h0⟩
  | d :: ds, n, env, h0, hs, hd => by
    obtain ⟨e1, h1, fl, e2, h2, h3⟩ := hs n d env (Nat.le_refl n) (by rw [Nat.sub_self]; rfl) h0
    unfold forL
    rw [h1]
    show W (match b e1 with | some (.next, env) => forL b put ds env | some (.cont, env) => forL b put ds env | some (.brk, env) => some (.next, env) | some (.ret r, env) => some (.ret r, env) | none => none) Φ
    rw [h2]
    have go : P (n + 1) e2 → W (forL b put ds e2) Φ := fun p =>
      W_forL P ds (n + 1) p (fun i d e hi hd' => hs i d e (by omega) (by
        have : i - n = (i - (n + 1)) + 1 := by omega
        rw [this, List.getElem?_cons_succ]
        exact hd')) (fun e p => hd e (by rw [List.length_cons]; have : n + (ds.length + 1) = n + 1 + ds.length := by omega
                                         rw [this]; exact p))
    cases fl with
    | next => exact go h3
    | cont => exact go h3
    | brk => exact ⟨_, _, rfl, h3⟩
    | ret r => exact ⟨_, _, rfl, h3⟩
theorem W_forG {src : MEs} {put : Env → D → Option Env} {b : MS} {env env1 : Env} {ds : List D} {Φ : Fl → Env → Prop} (P : Nat → Env → Prop) (hsrc : src env = some (ds, env1)) (h0 : P 0 env1)
    (hs : ∀ i d e, ds[i]? = some d → P i e → ∃ e1, put e d = some e1 ∧ W (b e1) (Lp (P (i + 1)) Φ)) (hd : ∀ e, P ds.length e → Φ .next e) : W (match src env with | none => none | some (ds, env) => forL b put ds env) Φ := by
  rw [hsrc]
  exact W_forL P ds 0 h0 (fun i d e _ h => hs i d e (by simpa using h)) (fun e p => hd e (by simpa using p))
theorem W_for {Γ : Fn} {v : Nat} {src : I} {b : Ss} {env env1 : Env} {ds : List D} {Φ : Fl → Env → Prop} (P : Nat → Env → Prop) (hsrc : evI Γ src env = some (ds, env1)) (h0 : P 0 env1)
    (hs : ∀ i d e, ds[i]? = some d → P i e → ∃ e1, put1 e v (.imm d) = some e1 ∧ W (evSs Γ b e1) (Lp (P (i + 1)) Φ)) (hd : ∀ e, P ds.length e → Φ .next e) : W (evS Γ (.for_ v src b) env) Φ :=
  W_forG (put := fun env d => put1 env v (.imm d)) P hsrc h0 hs hd
theorem W_forT {Γ : Fn} {vs : List Nat} {src : I} {b : Ss} {env env1 : Env} {ds : List D} {Φ : Fl → Env → Prop} (P : Nat → Env → Prop) (hsrc : evI Γ src env = some (ds, env1)) (h0 : P 0 env1)
    (hs : ∀ i d e, ds[i]? = some d → P i e → ∃ e1, (match tupOf d with | some xs => putT e vs xs | none => none) = some e1 ∧ W (evSs Γ b e1) (Lp (P (i + 1)) Φ)) (hd : ∀ e, P ds.length e → Φ .next e) : W (evS Γ (.forT vs src b) env) Φ :=
  W_forG (put := fun env d => match tupOf d with | some xs => putT env vs xs | none => none) P hsrc h0 hs hd
theorem whileN_mono {c : MT} {b : MS} : ∀ {n m : Nat} {env : Env} {x : Fl × Env}, n ≤ m → whileN c b n env = some x → whileN c b m env = some x
  | 0, _, _, _, _, h => by cases h
  | n + 1, 0, _, _, hle, _ => absurd hle (by omega)
  | n + 1, m + 1, env, x, hle, h => by
    unfold whileN at h ⊢
    split at h
    · cases h
    · exact h
    · split at h
      · exact whileN_mono (by omega) h
      · exact whileN_mono (by omega) h
      · exact h
      · exact h
      · cases h
theorem whileS_of {c : MT} {b : MS} {n : Nat} {env : Env} {x : Fl × Env} (h : whileN c b n env = some x) : whileS c b env = some x := by
  have hh : ∃ n x, whileN c b n env = some x := ⟨n, x, h⟩
  unfold whileS
  rw [dif_pos hh]
  have h2 := Classical.choose_spec (Classical.choose_spec hh)
  generalize Classical.choose (Classical.choose_spec hh) = y at h2
  generalize Classical.choose hh = m at h2
  have a := whileN_mono (Nat.le_max_left n m) h
  have b := whileN_mono (Nat.le_max_right n m) h2
  rw [a] at b
  exact b.symm
theorem W_while {Γ : Fn} {c : E} {b : Ss} {env : Env} {Φ : Fl → Env → Prop} (P : Nat → Env → Prop) (n : Nat) (h0 : P n env)
    (hs : ∀ m e, P m e → W ((evE Γ c).t e) fun k e1 => if k then W (evSs Γ b e1) (Lp (fun e2 => ∃ m', m' < m ∧ P m' e2) Φ) else Φ .next e1) : W (evS Γ (.while_ c b) env) Φ := by
  have key : ∀ m e, P m e → ∃ x, whileN (evE Γ c).t (evSs Γ b) (m + 1) e = some x ∧ Φ x.1 x.2 := by
    intro m
    induction m using Nat.strongRecOn with
    | _ m ih =>
      intro e p
      obtain ⟨k, e1, h1, h2⟩ := hs m e p
      unfold whileN
      rw [h1]
      cases k with
      | false => exact ⟨_, rfl, h2⟩
      | true =>
        have h2 : W (evSs Γ b e1) (Lp (fun e2 => ∃ m', m' < m ∧ P m' e2) Φ) := h2
        obtain ⟨fl, e2, h3, h4⟩ := h2
        show ∃ x, (match evSs Γ b e1 with | some (.next, env) => whileN (evE Γ c).t (evSs Γ b) m env | some (.cont, env) => whileN (evE Γ c).t (evSs Γ b) m env | some (.brk, env) => some (.next, env) | some (.ret r, env) => some (.ret r, env) | none => none) = some x ∧ _
        rw [h3]
        have go : (∃ m', m' < m ∧ P m' e2) → ∃ x, whileN (evE Γ c).t (evSs Γ b) m e2 = some x ∧ Φ x.1 x.2 := fun ⟨m', hm, p'⟩ => by
          obtain ⟨x, hx, hf⟩ := ih m' hm e2 p'
          exact ⟨x, whileN_mono (by omega) hx, hf⟩
        cases fl with
        | next => exact go h4
        | cont => exact go h4
        | brk => exact ⟨_, rfl, h4⟩
        | ret r => exact ⟨_, rfl, h4⟩
  obtain ⟨x, hx, hf⟩ := key n env h0
  exact ⟨x.1, x.2, whileS_of hx, hf⟩
/-! ### comprehensions -/
theorem compL_pure {t : MT} {f : Env → Option (D × Env)} {j : Nat} {env : Env} {p : D → Bool} {g : D → D} (hj : j < env.length) : ∀ (ds : List D) (s : Slot), (∀ d ∈ ds, t (env.set j (.imm d)) = some (p d, env.set j (.imm d))) → (∀ d ∈ ds, p d = true → f (env.set j (.imm d)) = some (g d, env.set j (.imm d))) →
    keepS s = true → ∃ s', compL t f j ds (env.set j s) = some ((ds.filter p).map g, env.set j s')
  | [], s, _, _, _ => ⟨s, rfl⟩
  | d :: ds, s, ht, hf, hs => by
    have hio : isIo (env.set j (.imm d)) j = false := by
      unfold isIo
      rw [List.getElem?_set_self hj]
    obtain ⟨s', ih⟩ := compL_pure hj ds (.imm d) (fun d h => ht d (List.mem_cons_of_mem _ h)) (fun d h => hf d (List.mem_cons_of_mem _ h)) rfl
    refine ⟨s', ?_⟩
    unfold compL
    rw [List.set_set, ht d List.mem_cons_self]
    cases hp : p d with
    | false =>
      show (if isIo (env.set j (.imm d)) j then none else compL t f j ds (env.set j (.imm d))) = _
      rw [hio, ih, List.filter_cons_of_neg (by rw [hp]; decide)]
      rfl
    | true =>
      show (match f (env.set j (.imm d)) with
        | none => none
        | some (y, env) => if isIo env j then none else match compL t f j ds env with
          | none => none
          | some (ys, env) => some (y :: ys, env)) = _
      rw [hf d List.mem_cons_self hp]
      show (if isIo (env.set j (.imm d)) j then none else match compL t f j ds (env.set j (.imm d)) with
          | none => none
          | some (ys, env) => some (g d :: ys, env)) = _
      rw [hio, ih, List.filter_cons_of_pos (by rw [hp])]
      rfl
theorem set_self {env : Env} {j : Nat} {s : Slot} (h : env[j]? = some s) : env.set j s = env := by
  obtain ⟨hj, h⟩ := List.getElem?_eq_some_iff.mp h
  rw [← h]
  exact List.set_getElem_self hj
theorem comp_pure {elt : ME} {j : Nat} {src : MEs} {ts : MT} {env env1 : Env} {ds : List D} {s : Slot} {p : D → Bool} {g : D → D} (hsrc : src env = some (ds, env1)) (hs : env1[j]? = some s) (hk : keepS s = true) (hz : ds.length < sizeLine)
    (ht : ∀ d ∈ ds, ts (env1.set j (.imm d)) = some (p d, env1.set j (.imm d))) (hf : ∀ d ∈ ds, p d = true → fz (elt (env1.set j (.imm d))) = some (g d, env1.set j (.imm d))) :
    cComp elt j src ts env = some (Res.own (O.lst ((ds.filter p).map g)), env1) := by
  have hj : j < env1.length := (List.getElem?_eq_some_iff.mp hs).1
  obtain ⟨s', h⟩ := compL_pure (t := ts) (f := fun e => fz (elt e)) hj ds .no ht hf rfl
  unfold cComp
  rw [hsrc]
  show (match env1[j]? with
    | none => none
    | some s => if keepS s then match compL ts (fun e => fz (elt e)) j ds (env1.set j .no) with
      | none => none
      | some (ys, env) => IF (ds.length < sizeLine) (some (Res.own (O.lst ys), env.set j s))
      else none) = _
  rw [hs]
  show (if keepS s then match compL ts (fun e => fz (elt e)) j ds (env1.set j .no) with
      | none => none
      | some (ys, env) => IF (ds.length < sizeLine) (some (Res.own (O.lst ys), env.set j s))
      else none) = _
  rw [hk, h]
  show (IF (ds.length < sizeLine) (some (Res.own (.lst ((ds.filter p).map g)), (env1.set j s').set j s))) = _
  rw [IFP hz, List.set_set, set_self hs]
/-- no test -/
theorem comp_map {elt : ME} {j : Nat} {src : MEs} {env env1 : Env} {ds : List D} {s : Slot} {g : D → D} (hsrc : src env = some (ds, env1)) (hs : env1[j]? = some s) (hk : keepS s = true) (hz : ds.length < sizeLine)
    (hf : ∀ d ∈ ds, fz (elt (env1.set j (.imm d))) = some (g d, env1.set j (.imm d))) : cComp elt j src (fun env => some (true, env)) env = some (Res.own (O.lst (ds.map g)), env1) := by
  have h := comp_pure (ts := fun env => some (true, env)) (p := fun _ => true) (g := g) hsrc hs hk hz (fun _ _ => rfl) (fun d hd _ => hf d hd)
  rw [List.filter_eq_self.mpr (fun _ _ => rfl)] at h
  exact h
theorem comp_mapY {elt : ME} {j : Nat} {src : MEs} {env env1 : Env} {ds ys : List D} {s : Slot} (g : D → D) (hsrc : src env = some (ds, env1)) (hs : env1[j]? = some s) (hk : keepS s = true) (hz : ds.length < sizeLine)
    (hf : ∀ d ∈ ds, fz (elt (env1.set j (.imm d))) = some (g d, env1.set j (.imm d))) (hy : ds.map g = ys) : cComp elt j src (fun env => some (true, env)) env = some (Res.own (O.lst ys), env1) := by
  rw [← hy]
  exact comp_map hsrc hs hk hz hf
theorem comp_pureY {elt : ME} {j : Nat} {src : MEs} {ts : MT} {env env1 : Env} {ds ys : List D} {s : Slot} (p : D → Bool) (g : D → D) (hsrc : src env = some (ds, env1)) (hs : env1[j]? = some s) (hk : keepS s = true) (hz : ds.length < sizeLine)
    (ht : ∀ d ∈ ds, ts (env1.set j (.imm d)) = some (p d, env1.set j (.imm d))) (hf : ∀ d ∈ ds, p d = true → fz (elt (env1.set j (.imm d))) = some (g d, env1.set j (.imm d))) (hy : (ds.filter p).map g = ys) :
    cComp elt j src ts env = some (Res.own (O.lst ys), env1) := by
  rw [← hy]
  exact comp_pure hsrc hs hk hz ht hf
/-! ### a def -/
theorem runD_of {Γ : Fn} {n : Nat} {body : Ss} {o : Option O} {ds : List D} {r : Res} {o' : Option O} (h : W (evSs Γ body (env0 n o ds)) fun fl e => match fl with
    | .ret r' => r' = r ∧ ioOf e = o'
    | .next => r = .imm .none ∧ ioOf e = o'
    | _ => False) : runD Γ n body o ds = some (r, o') := by
  obtain ⟨fl, e, h1, h2⟩ := h
  unfold runD
  rw [h1]
  cases fl with
  | next =>
    obtain ⟨rfl, rfl⟩ := h2
    rfl
  | ret r' =>
    obtain ⟨rfl, rfl⟩ := h2
    rfl
  | brk => exact h2.elim
  | cont => exact h2.elim
/-- .. whose result is told by what holds of it -/
theorem runD_ex {Γ : Fn} {n : Nat} {body : Ss} {o : Option O} {ds : List D} {R : Res → Option O → Prop} (h : W (evSs Γ body (env0 n o ds)) fun fl e => match fl with
    | .ret r' => R r' (ioOf e)
    | .next => R (.imm .none) (ioOf e)
    | _ => False) : ∃ r o', runD Γ n body o ds = some (r, o') ∧ R r o' := by
  obtain ⟨fl, e, h1, h2⟩ := h
  unfold runD
  rw [h1]
  cases fl with
  | next => exact ⟨_, _, rfl, h2⟩
  | ret r' => exact ⟨_, _, rfl, h2⟩
  | brk => exact h2.elim
  | cont => exact h2.elim
theorem ioB_no : ioB .no = false := rfl
theorem ioB_imm (d : D) : ioB (.imm d) = false := rfl
theorem ioB_own (o : O) : ioB (.own o) = false := rfl
theorem ioOf_gs (o : Option D) (e : Env) : ioOf (gs o :: e) = ioOf e := by cases o <;> rfl
theorem keepS_gs (o : Option D) : keepS (gs o) = true := by cases o <;> rfl
theorem gs_some (d : D) : Slot.imm d = gs (some d) := rfl
theorem gs_none : Slot.no = gs none := rfl
theorem mulOk_l {i j : Int} (h : -18446744073709551616 < i ∧ i < 18446744073709551616) : mulOk i j = true := by
  unfold mulOk
  have : i.natAbs < 2 ^ 64 := by omega
  rw [decide_eq_true this]
  rfl
theorem mulOk_r {i j : Int} (h : -18446744073709551616 < j ∧ j < 18446744073709551616) : mulOk i j = true := by
  unfold mulOk
  have : j.natAbs < 2 ^ 64 := by omega
  rw [decide_eq_true this]
  simp
theorem CDiv_of {i j : Int} (h : 0 < j ∧ j < 1073741824) : CDiv' i j := ⟨by omega, by omega⟩
theorem CPow_of {i j : Int} (h : (0 ≤ j ∧ j ≤ 1000000) ∧ (-18446744073709551616 < i ∧ i < 18446744073709551616)) : CPow' i j := ⟨h.1.1, h.1.2, by omega⟩
theorem IFdiv {α : Type} {i j : Int} {a : Option α} (h : 0 < j ∧ j < 1073741824) : IF (CDiv' i j) a = a := IFP (CDiv_of h)
theorem IFpow {α : Type} {i j : Int} {a : Option α} (h : (0 ≤ j ∧ j ≤ 1000000) ∧ (-18446744073709551616 < i ∧ i < 18446744073709551616)) : IF (CPow' i j) a = a := IFP (CPow_of h)
theorem IFT {α : Type} {a : Option α} : IF True a = a := IFP trivial
/-! ### lists of ints -/
def L (ns : List Int) : List D := ns.map PyData.int
theorem L_len (ns : List Int) : (L ns).length = ns.length := List.length_map _
theorem L_app (a b : List Int) : L a ++ L b = L (a ++ b) := List.map_append.symm
theorem L_cut (a : List Int) (lo hi : Option Int) : cutD (L a) lo hi = L ((a.drop (HT.sIx a.length 0 lo)).take (HT.sIx a.length a.length hi - HT.sIx a.length 0 lo)) := by
  unfold cutD
  rw [L_len]
  unfold L
  rw [List.map_drop.symm, List.map_take.symm]
theorem L_atI (a : List Int) (i : Int) : L2.atI (L a) i = (L2.atI a i).map PyData.int := by
  unfold L2.atI
  rw [L_len]
  cases L2.ixN a.length i with
  | none => rfl
  | some j =>
    show (L a)[j]? = (a[j]?).map PyData.int
    unfold L
    rw [List.getElem?_map]
theorem L_set (a : List Int) (j : Nat) (n : Int) : (L a).set j (.int n) = L (a.set j n) := by
  unfold L
  rw [List.map_set]
theorem L_rep (k : Nat) (n : Int) : (List.replicate k [PyData.int n]).flatten = L (List.replicate k n) := by
  unfold L
  rw [List.flatten_replicate_singleton, List.map_replicate]
theorem L_mem {a : List Int} {d : D} : d ∈ L a ↔ ∃ n, n ∈ a ∧ d = .int n := by
  unfold L
  rw [List.mem_map]
  constructor
  · rintro ⟨n, h, rfl⟩
    exact ⟨n, h, rfl⟩
  · rintro ⟨n, h, rfl⟩
    exact ⟨n, h, rfl⟩
theorem L_get {a : List Int} {i : Nat} {d : D} : (L a)[i]? = some d ↔ ∃ n, a[i]? = some n ∧ d = .int n := by
  unfold L
  rw [List.getElem?_map]
  cases a[i]? with
  | none => simp
  | some n => simp [eq_comm]
theorem L_inj {a b : List Int} (h : L a = L b) : a = b := by
  unfold L at h
  exact (List.map_inj_right (fun x y h => by injection h)).mp h
theorem cut_nat (a : List Int) (i j : Nat) : cutD (L a) (some (i : Int)) (some (j : Int)) = L ((a.drop (min i a.length)).take (min j a.length - min i a.length)) := by
  rw [L_cut, HT.sIx_nat, HT.sIx_nat]
theorem cut_to (a : List Int) (j : Nat) : cutD (L a) none (some (j : Int)) = L (a.take j) := by
  rw [L_cut, HT.sIx_nat, HT.sIx_none, List.drop_zero, Nat.sub_zero]
  congr 1
  by_cases h : j ≤ a.length
  · rw [Nat.min_eq_left h]
  · rw [Nat.min_eq_right (by omega), List.take_of_length_le (Nat.le_refl _), List.take_of_length_le (by omega)]
theorem cut_from (a : List Int) (i : Nat) : cutD (L a) (some (i : Int)) none = L (a.drop i) := by
  rw [L_cut, HT.sIx_nat, HT.sIx_none]
  congr 1
  rw [List.take_of_length_le (by rw [List.length_drop]; omega)]
  by_cases h : i ≤ a.length
  · rw [Nat.min_eq_left h]
  · rw [Nat.min_eq_right (by omega), List.drop_eq_nil_of_le (Nat.le_refl _), List.drop_eq_nil_of_le (by omega)]
theorem cut_mid (a : List Int) (i j : Nat) (h : i ≤ j) : cutD (L a) (some (i : Int)) (some (j : Int)) = L ((a.drop i).take (j - i)) := by
  rw [cut_nat]
  congr 1
  by_cases h1 : i ≤ a.length
  · rw [Nat.min_eq_left h1]
    by_cases h2 : j ≤ a.length
    · rw [Nat.min_eq_left h2]
    · rw [Nat.min_eq_right (by omega), List.take_of_length_le (by rw [List.length_drop]; omega), List.take_of_length_le (by rw [List.length_drop]; omega)]
  · rw [Nat.min_eq_right (show a.length ≤ i by omega), List.drop_eq_nil_of_le (Nat.le_refl _), List.drop_eq_nil_of_le (show a.length ≤ i by omega)]
    simp
theorem sIx_neg (n d k : Nat) (h : 0 < k) : HT.sIx n d (some (-(k : Int))) = n - k := by
  have := HT.clip_eq (-(k : Int)) n d
  rw [if_pos (by omega)] at this
  omega
theorem cut_last (a : List Int) (k : Nat) (h : 0 < k) : cutD (L a) (some (-(k : Int))) none = L (a.drop (a.length - k)) := by
  rw [L_cut, sIx_neg _ _ _ h, HT.sIx_none]
  congr 1
  rw [List.take_of_length_le (by rw [List.length_drop]; omega)]
theorem cut_init (a : List Int) (k : Nat) (h : 0 < k) : cutD (L a) none (some (-(k : Int))) = L (a.take (a.length - k)) := by
  rw [L_cut, sIx_neg _ _ _ h, HT.sIx_none, List.drop_zero, Nat.sub_zero]
theorem at_nat (a : List Int) (i : Nat) (n : Int) (h : a[i]? = some n) : L2.atI (L a) (i : Int) = some (.int n) := by
  rw [L_atI, L2.atI_nat h]
  rfl
theorem IFtt {α : Type} {a : Option α} : IF (true = true) a = a := IFP rfl
theorem sh_int (i : Int) : SeqAt.shaped (.int i) = true := by simp [SeqAt.shaped, PyData.canLay0, PyData.depth]
theorem sh_bool (i : Bool) : SeqAt.shaped (.bool i) = true := by simp [SeqAt.shaped, PyData.canLay0, PyData.depth]
theorem sh_none : SeqAt.shaped .none = true := by simp [SeqAt.shaped, PyData.canLay0, PyData.depth]
theorem canL : ∀ a : List Int, PyData.canLayAll0 (L a) = true
  | [] => rfl
  | x :: xs => by
    show (PyData.canLay0 (.int x) && PyData.canLayAll0 (L xs)) = true
    rw [canL xs]
    rfl
theorem depL : ∀ a : List Int, PyData.depthAll (L a) = 0
  | [] => rfl
  | x :: xs => by
    show max (PyData.depth (.int x)) (PyData.depthAll (L xs)) = 0
    rw [depL xs]
    rfl
theorem sh_L (a : List Int) : SeqAt.shaped (.list (L a)) = true := by
  simp [SeqAt.shaped, PyData.canLay0, PyData.depth, canL, depL]
theorem sh_TL (a : List Int) : SeqAt.shaped (.tuple (L a)) = true := by
  simp [SeqAt.shaped, PyData.canLay0, PyData.depth, canL, depL]
theorem eqv_int (a b : Int) : PyData.eqv (.int a) (.int b) = decide (a = b) := by
  simp [PyData.eqv]
  rfl
theorem eqvAll_L : ∀ a b : List Int, PyData.eqvAll (L a) (L b) = decide (a = b)
  | [], [] => by simp [L, PyData.eqvAll]
  | [], y :: ys => by simp [L, PyData.eqvAll]
  | x :: xs, [] => by simp [L, PyData.eqvAll]
  | x :: xs, y :: ys => by
    show (PyData.eqv (.int x) (.int y) && PyData.eqvAll (L xs) (L ys)) = _
    rw [eqv_int, eqvAll_L xs ys]
    by_cases h1 : x = y <;> by_cases h2 : xs = ys <;> simp [h1, h2]
theorem eqv_L (a b : List Int) : PyData.eqv (.list (L a)) (.list (L b)) = decide (a = b) := by
  show PyData.eqvAll (L a) (L b) = _
  exact eqvAll_L a b
theorem eqv_nil (a : PyData) : PyData.eqv .none a = (match a with | .none => true | _ => false) := by
  cases a <;> simp [PyData.eqv]
/-- the pool of draws -/
def IsP (o : O) : Prop := ∃ (ns : List Int) (p r f : Int), o = .lst [.dict [(.none, .list (L ns))], .int p, .int r, .int f]
theorem IsP.l {o : O} (h : IsP o) : o.IsL := by
  obtain ⟨_, _, _, _, rfl⟩ := h
  exact .inl ⟨_, rfl⟩
theorem szl : sizeLine = 16777216 := by decide
end Z
/-! Crc: the mathematics of the sums; core Lean alone. -/
namespace Crc
def F : Nat := 79764919
theorem F_lt : F < 2 ^ 32 := by decide
/-- a nought is fed -/
def Lz (x : Nat) : Nat := (2 * x % 2 ^ 32) ^^^ (if x.testBit 31 then F else 0)
/-- a bit is fed -/
def st (s : Nat) (b : Bool) : Nat := (2 * s % 2 ^ 32) ^^^ (if s.testBit 31 != b then F else 0)
def crc (s : Nat) (bs : List Bool) : Nat := bs.foldl st s
theorem crc_nil (s : Nat) : crc s [] = s := rfl
theorem crc_cons (s : Nat) (b : Bool) (bs : List Bool) : crc s (b :: bs) = crc (st s b) bs := rfl
theorem crc_app (s : Nat) (a b : List Bool) : crc s (a ++ b) = crc (crc s a) b := List.foldl_append
theorem ite_lt (c : Bool) : (if c then F else 0) < 2 ^ 32 := by
  cases c
  · decide
  · exact F_lt
theorem st_lt (s : Nat) (b : Bool) : st s b < 2 ^ 32 := Nat.xor_lt_two_pow (Nat.mod_lt _ (by decide)) (ite_lt _)
theorem Lz_lt (s : Nat) : Lz s < 2 ^ 32 := Nat.xor_lt_two_pow (Nat.mod_lt _ (by decide)) (ite_lt _)
theorem crc_lt {s : Nat} (h : s < 2 ^ 32) : ∀ bs : List Bool, crc s bs < 2 ^ 32
  | [] => h
  | b :: bs => by
    rw [crc_cons]
    exact crc_lt (st_lt s b) bs
theorem bit_double (x i : Nat) : (2 * x % 2 ^ 32).testBit i = (decide (i < 32) && (decide (1 ≤ i) && x.testBit (i - 1))) := by
  rw [Nat.testBit_mod_two_pow]
  congr 1
  cases i with
  | zero => simp [Nat.testBit_zero]
  | succ i => simp [Nat.testBit_succ]
theorem bit_ite (c : Bool) (i : Nat) : (if c then F else 0).testBit i = (c && F.testBit i) := by
  cases c <;> simp
theorem bit_st (s : Nat) (b : Bool) (i : Nat) : (st s b).testBit i = ((decide (i < 32) && (decide (1 ≤ i) && s.testBit (i - 1))) ^^ ((s.testBit 31 != b) && F.testBit i)) := by
  unfold st
  rw [Nat.testBit_xor, bit_double, bit_ite]
theorem bit_Lz (s : Nat) (i : Nat) : (Lz s).testBit i = ((decide (i < 32) && (decide (1 ≤ i) && s.testBit (i - 1))) ^^ (s.testBit 31 && F.testBit i)) := by
  unfold Lz
  rw [Nat.testBit_xor, bit_double, bit_ite]
theorem st_lin (s t : Nat) (a b : Bool) : st (s ^^^ t) (a ^^ b) = st s a ^^^ st t b := by
  apply Nat.eq_of_testBit_eq
  intro i
  rw [Nat.testBit_xor, bit_st, bit_st, bit_st, Nat.testBit_xor, Nat.testBit_xor]
  generalize decide (i < 32) = p
  generalize decide (1 ≤ i) = q
  generalize s.testBit (i - 1) = u
  generalize t.testBit (i - 1) = v
  generalize s.testBit 31 = w
  generalize t.testBit 31 = x
  generalize F.testBit i = f
  cases p <;> cases q <;> cases u <;> cases v <;> cases w <;> cases x <;> cases f <;> cases a <;> cases b <;> rfl
theorem Lz_lin (s t : Nat) : Lz (s ^^^ t) = Lz s ^^^ Lz t := by
  apply Nat.eq_of_testBit_eq
  intro i
  rw [Nat.testBit_xor, bit_Lz, bit_Lz, bit_Lz, Nat.testBit_xor, Nat.testBit_xor]
  generalize decide (i < 32) = p
  generalize decide (1 ≤ i) = q
  generalize s.testBit (i - 1) = u
  generalize t.testBit (i - 1) = v
  generalize s.testBit 31 = w
  generalize t.testBit 31 = x
  generalize F.testBit i = f
  cases p <;> cases q <;> cases u <;> cases v <;> cases w <;> cases x <;> cases f <;> rfl
theorem crc_lin : ∀ (s t : Nat) (a b : List Bool), a.length = b.length → crc (s ^^^ t) (List.zipWith xor a b) = crc s a ^^^ crc t b
  | s, t, [], [], _ => rfl
  | s, t, a :: as, b :: bs, h => by
    rw [List.zipWith_cons_cons, crc_cons, crc_cons, crc_cons, st_lin]
    exact crc_lin _ _ as bs (by simpa using h)
  | _, _, [], _ :: _, h => by simp at h
  | _, _, _ :: _, [], h => by simp at h
def top (b : Bool) : Nat := if b then 2 ^ 31 else 0
theorem bit_top (b : Bool) (i : Nat) : (top b).testBit i = (b && decide (i = 31)) := by
  unfold top
  cases b with
  | false => simp
  | true =>
    rw [if_pos rfl, Nat.testBit_two_pow]
    simp [eq_comm]
theorem st_top (s : Nat) (b : Bool) : st s b = Lz (s ^^^ top b) := by
  apply Nat.eq_of_testBit_eq
  intro i
  rw [bit_st, bit_Lz, Nat.testBit_xor, Nat.testBit_xor, bit_top, bit_top]
  by_cases h : i < 32
  · have h2 : decide (i - 1 = 31) = false := decide_eq_false (by omega)
    rw [h2, decide_eq_true h]
    simp only [decide_true, Bool.and_true, Bool.and_false, Bool.xor_false]
  · rw [decide_eq_false h]
    simp only [Bool.false_and, Bool.false_xor, decide_true, Bool.and_true]
/-- n noughts -/
def Ln : Nat → Nat → Nat
  | 0, x => x
  | n + 1, x => Lz (Ln n x)
theorem Ln_lin : ∀ (n x y : Nat), Ln n (x ^^^ y) = Ln n x ^^^ Ln n y
  | 0, _, _ => rfl
  | n + 1, x, y => by
    show Lz (Ln n (x ^^^ y)) = Lz (Ln n x) ^^^ Lz (Ln n y)
    rw [Ln_lin n x y, Lz_lin]
theorem Ln_lt {x : Nat} (h : x < 2 ^ 32) : ∀ n, Ln n x < 2 ^ 32
  | 0 => h
  | n + 1 => Lz_lt _
theorem Lz_zero : Lz 0 = 0 := by decide
theorem Ln_zero : ∀ n, Ln n 0 = 0
  | 0 => rfl
  | n + 1 => by
    show Lz (Ln n 0) = 0
    rw [Ln_zero n]
    exact Lz_zero
theorem Lz_inj {x : Nat} (h : x < 2 ^ 32) (e : Lz x = 0) : x = 0 := by
  have b : ∀ i, (Lz x).testBit i = false := fun i => by rw [e]; exact Nat.zero_testBit i
  have h31 : x.testBit 31 = false := by
    have := b 0
    rw [bit_Lz] at this
    have f0 : F.testBit 0 = true := by decide
    rw [f0] at this
    simpa using this
  apply Nat.eq_of_testBit_eq
  intro i
  rw [Nat.zero_testBit]
  by_cases hi : i < 31
  · have := b (i + 1)
    rw [bit_Lz, h31, decide_eq_true (show i + 1 < 32 by omega), decide_eq_true (show 1 ≤ i + 1 by omega)] at this
    simpa using this
  · by_cases h2 : i = 31
    · rw [h2, h31]
    · exact Nat.testBit_lt_two_pow (Nat.lt_of_lt_of_le h (Nat.pow_le_pow_right (by decide) (by omega)))
theorem Ln_inj {x : Nat} (h : x < 2 ^ 32) : ∀ n, Ln n x = 0 → x = 0
  | 0, e => e
  | n + 1, e => Ln_inj h n (Lz_inj (Ln_lt h n) e)
/-- the number of up to 32 bits, the first one the highest of the 32 -/
def val : Nat → List Bool → Nat
  | _, [] => 0
  | n, b :: bs => (if b then 2 ^ (31 - n) else 0) ^^^ val (n + 1) bs
theorem Ln_pow (b : Bool) : ∀ n, n ≤ 31 → Ln n (if b then 2 ^ (31 - n) else 0) = top b
  | 0, _ => rfl
  | n + 1, h => by
    have step : ∀ m, m + 1 ≤ 31 → Lz (if b then 2 ^ m else 0) = if b then 2 ^ (m + 1) else 0 := by
      intro m hm
      cases b with
      | false => exact Lz_zero
      | true =>
        rw [if_pos rfl, if_pos rfl]
        unfold Lz
        have hl : 2 * 2 ^ m = 2 ^ (m + 1) := by rw [Nat.pow_succ, Nat.mul_comm]
        rw [hl, Nat.mod_eq_of_lt (Nat.pow_lt_pow_right (by decide) (by omega)), Nat.testBit_two_pow]
        rw [if_neg (by simp; omega)]
        exact Nat.xor_zero _
    -- feed the noughts from the inside
    have comm : ∀ k x, Ln k (Lz x) = Lz (Ln k x) := by
      intro k x
      induction k with
      | zero => rfl
      | succ k ih =>
        show Lz (Ln k (Lz x)) = Lz (Lz (Ln k x))
        rw [ih]
    show Lz (Ln n (if b then 2 ^ (31 - (n + 1)) else 0)) = top b
    rw [← comm, step (31 - (n + 1)) (by omega)]
    have e : 31 - (n + 1) + 1 = 31 - n := by omega
    rw [e]
    exact Ln_pow b n (by omega)
theorem crc_feed : ∀ (bs : List Bool) (n s : Nat), n + bs.length ≤ 32 → crc (Ln n s) bs = Ln (n + bs.length) (s ^^^ val n bs)
  | [], n, s, _ => by
    show Ln n s = Ln (n + 0) (s ^^^ 0)
    rw [Nat.xor_zero, Nat.add_zero]
  | b :: bs, n, s, h => by
    rw [List.length_cons] at h
    rw [crc_cons, st_top, ← Ln_pow b n (by omega), ← Ln_lin]
    show crc (Ln (n + 1) (s ^^^ if b then 2 ^ (31 - n) else 0)) bs = _
    rw [crc_feed bs (n + 1) _ (by omega), List.length_cons]
    have e : n + 1 + bs.length = n + (bs.length + 1) := by omega
    rw [e]
    show Ln _ ((s ^^^ if b then 2 ^ (31 - n) else 0) ^^^ val (n + 1) bs) = Ln _ (s ^^^ ((if b then 2 ^ (31 - n) else 0) ^^^ val (n + 1) bs))
    rw [Nat.xor_assoc]
theorem crc_zeros (s : Nat) : ∀ n, crc s (List.replicate n false) = Ln n s
  | n => by
    have : ∀ n s, crc s (List.replicate n false) = Ln n s := by
      intro n
      induction n with
      | zero => intro s; rfl
      | succ n ih =>
        intro s
        rw [List.replicate_succ', crc_app, ih]
        show st (Ln n s) false = Lz (Ln n s)
        unfold st Lz
        cases (Ln n s).testBit 31 <;> rfl
    exact this n s
theorem val_lt : ∀ (bs : List Bool) (n : Nat), val n bs < 2 ^ 32
  | [], _ => by show 0 < 2 ^ 32; decide
  | b :: bs, n => by
    refine Nat.xor_lt_two_pow ?_ (val_lt bs (n + 1))
    cases b with
    | false =>
      show 0 < 2 ^ 32
      decide
    | true => exact Nat.pow_lt_pow_right (by decide) (by omega)
theorem bit_val : ∀ (bs : List Bool) (n i : Nat), n + bs.length ≤ 32 → i < bs.length → (val n bs).testBit (31 - n - i) = bs.getD i false
  | [], _, _, _, h => by simp at h
  | b :: bs, n, i, h, hi => by
    rw [List.length_cons] at h hi
    unfold val
    rw [Nat.testBit_xor]
    have hb : ∀ j, (if b then 2 ^ (31 - n) else 0 : Nat).testBit j = (b && decide (31 - n = j)) := by
      intro j
      cases b with
      | false => simp
      | true => rw [if_pos rfl, Nat.testBit_two_pow]; simp
    rw [hb]
    cases i with
    | zero =>
      -- the later bits lie below
      have low : ∀ (cs : List Bool) (m : Nat), n < m → m + cs.length ≤ 32 → (val m cs).testBit (31 - n) = false := by
        intro cs
        induction cs with
        | nil => intro m _ _; exact Nat.zero_testBit _
        | cons c cs ih =>
          intro m hm hl
          rw [List.length_cons] at hl
          unfold val
          rw [Nat.testBit_xor, ih (m + 1) (by omega) (by omega)]
          cases c with
          | false => simp
          | true =>
            rw [if_pos rfl, Nat.testBit_two_pow]
            simp
            omega
      rw [show 31 - n - 0 = 31 - n by omega, low bs (n + 1) (by omega) (by omega)]
      simp
    | succ i =>
      have := bit_val bs (n + 1) i (by omega) (by omega)
      rw [show 31 - n - (i + 1) = 31 - (n + 1) - i by omega, this]
      have : decide (31 - n = 31 - (n + 1) - i) = false := decide_eq_false (by omega)
      rw [this]
      simp
theorem val_zero {bs : List Bool} (h : bs.length ≤ 32) (e : val 0 bs = 0) : ∀ i, bs.getD i false = false := by
  intro i
  by_cases hi : i < bs.length
  · have := bit_val bs 0 i (by omega) hi
    rw [e, Nat.zero_testBit] at this
    exact this.symm
  · rw [List.getD_eq_getElem?_getD, List.getElem?_eq_none (by omega)]
    rfl
/-- a burst of up to 32 bits is seen -/
theorem burst {W : List Bool} (a c : Nat) (hW : W.length = 32) (h1 : ∃ i, W.getD i false = true) : crc 0 (List.replicate a false ++ (W ++ List.replicate c false)) ≠ 0 := by
  intro e
  rw [crc_app, crc_zeros, Ln_zero, crc_app, crc_zeros] at e
  have hlt : crc 0 W < 2 ^ 32 := crc_lt (by decide) W
  have e2 := Ln_inj hlt c e
  have e3 := crc_feed W 0 0 (by omega)
  have e3 : crc 0 W = Ln (0 + W.length) (0 ^^^ val 0 W) := e3
  rw [e2, Nat.zero_xor] at e3
  have e4 := Ln_inj (val_lt W 0) _ e3.symm
  obtain ⟨i, hi⟩ := h1
  rw [val_zero (by omega) e4 i] at hi
  cases hi
/-- the 32 bits of a number, the highest first -/
def bits32 (v : Nat) : List Bool := (List.range 32).map fun k => v.testBit (31 - k)
theorem val_bits {v : Nat} (h : v < 2 ^ 32) : val 0 (bits32 v) = v := by
  apply Nat.eq_of_testBit_eq
  intro i
  by_cases hi : i < 32
  · have := bit_val (bits32 v) 0 (31 - i) (by simp [bits32]) (by simp [bits32]; omega)
    rw [show 31 - 0 - (31 - i) = i by omega] at this
    rw [this, List.getD_eq_getElem?_getD]
    unfold bits32
    rw [List.getElem?_map, List.getElem?_range (by omega)]
    show v.testBit (31 - (31 - i)) = v.testBit i
    rw [show 31 - (31 - i) = i by omega]
  · rw [Nat.testBit_lt_two_pow (Nat.lt_of_lt_of_le (val_lt _ _) (Nat.pow_le_pow_right (by decide) (by omega))), Nat.testBit_lt_two_pow (Nat.lt_of_lt_of_le h (Nat.pow_le_pow_right (by decide) (by omega)))]
/-- bits with their sum behind leave nothing -/
theorem whole {m : List Bool} {v : Nat} (h : crc 0 m = v) : crc 0 (m ++ bits32 v) = 0 := by
  have hv : v < 2 ^ 32 := by rw [← h]; exact crc_lt (by decide) m
  rw [crc_app, h]
  have e := crc_feed (bits32 v) 0 v (by simp [bits32])
  have e : crc v (bits32 v) = Ln (0 + (bits32 v).length) (v ^^^ val 0 (bits32 v)) := e
  rw [e, val_bits hv, Nat.xor_self, Ln_zero]
/-- two blocks with right sums do not differ within a run of up to 32 bits alone -/
theorem two_right {a b : List Bool} {va vb : Nat} (hl : a.length = b.length) (ha : crc 0 a = va) (hb : crc 0 b = vb) {p : Nat} (hp : p + 32 ≤ a.length + 32)
    (hout : ∀ i, (i < p ∨ p + 32 ≤ i) → (a ++ bits32 va).getD i false = (b ++ bits32 vb).getD i false) : a ++ bits32 va = b ++ bits32 vb := by
  have hL : (a ++ bits32 va).length = (b ++ bits32 vb).length := by simp [bits32, hl]
  generalize hA : a ++ bits32 va = A at *
  generalize hB : b ++ bits32 vb = B at *
  have hlen : A.length = a.length + 32 := by rw [← hA]; simp [bits32]
  have eA : crc 0 A = 0 := by rw [← hA]; exact whole ha
  have eB : crc 0 B = 0 := by rw [← hB]; exact whole hb
  have eE : crc 0 (List.zipWith xor A B) = 0 := by
    have := crc_lin 0 0 A B hL
    rw [Nat.xor_self, eA, eB] at this
    exact this
  have hE : ∀ i, (List.zipWith xor A B).getD i false = (A.getD i false ^^ B.getD i false) := by
    intro i
    rw [List.getD_eq_getElem?_getD, List.getD_eq_getElem?_getD, List.getD_eq_getElem?_getD, List.getElem?_zipWith]
    by_cases hi : i < A.length
    · rw [List.getElem?_eq_getElem hi, List.getElem?_eq_getElem (by omega)]
      rfl
    · rw [List.getElem?_eq_none (by omega), List.getElem?_eq_none (by omega)]
      rfl
  have hEl : (List.zipWith xor A B).length = A.length := by rw [List.length_zipWith, hL, Nat.min_self]
  generalize List.zipWith xor A B = E at *
  -- the run within
  have split : E = List.replicate p false ++ ((E.drop p).take 32 ++ List.replicate (E.length - p - 32) false) := by
    apply List.ext_getElem?
    intro i
    have zero : ∀ i, (i < p ∨ p + 32 ≤ i) → i < E.length → E[i]? = some false := by
      intro i hi hiL
      have := hE i
      rw [hout i hi, Bool.xor_self, List.getD_eq_getElem?_getD, List.getElem?_eq_getElem hiL] at this
      rw [List.getElem?_eq_getElem hiL]
      exact congrArg some this
    by_cases h1 : i < p
    · rw [List.getElem?_append_left (by simpa using h1), List.getElem?_replicate, if_pos h1]
      exact zero i (.inl h1) (by omega)
    · rw [List.getElem?_append_right (by simp; omega), List.length_replicate]
      by_cases h2 : i < p + 32
      · rw [List.getElem?_append_left (by simp; omega), List.getElem?_take, if_pos (by omega), List.getElem?_drop]
        congr 1
        omega
      · rw [List.getElem?_append_right (by simp; omega)]
        have hT : (List.take 32 (List.drop p E)).length = 32 := by simp; omega
        rw [hT, List.getElem?_replicate]
        by_cases h3 : i < E.length
        · rw [if_pos (by omega)]
          exact zero i (.inr (by omega)) h3
        · rw [if_neg (by omega)]
          exact List.getElem?_eq_none (by omega)
  have nob : ¬ ∃ i, ((E.drop p).take 32).getD i false = true := by
    intro h1
    rw [split] at eE
    exact burst p _ (by simp; omega) h1 eE
  have same : ∀ i, E.getD i false = false := by
    intro i
    by_cases h1 : p ≤ i ∧ i < p + 32
    · have q : ((E.drop p).take 32).getD (i - p) false = E.getD i false := by
        rw [List.getD_eq_getElem?_getD, List.getD_eq_getElem?_getD, List.getElem?_take, if_pos (by omega), List.getElem?_drop]
        congr 2
        omega
      cases e : E.getD i false with
      | false => rfl
      | true => exact absurd ⟨i - p, by rw [q, e]⟩ nob
    · rw [hE i, hout i (by omega), Bool.xor_self]
  apply List.ext_getElem?
  intro i
  by_cases hi : i < A.length
  · have := hE i
    rw [same i] at this
    rw [List.getD_eq_getElem?_getD, List.getD_eq_getElem?_getD, List.getElem?_eq_getElem hi, List.getElem?_eq_getElem (show i < B.length by omega)] at this
    rw [List.getElem?_eq_getElem hi, List.getElem?_eq_getElem (show i < B.length by omega)]
    congr 1
    revert this
    generalize A[i] = x
    generalize B[i]'(by omega) = y
    cases x <;> cases y <;> simp
  · rw [List.getElem?_eq_none (by omega), List.getElem?_eq_none (by omega)]
end Crc
namespace K48
open PySem PySem.Spec PyProof.Rows L2
def topS (i : Nat) : Stmt := PySem.Challenge.pw_playproof_k48_whole_files_fed_in_pieces.main.body.getD i (.Pass ⟨0, 0, 0, 0⟩)
/-! 0: sum_of_bits(told)  -/
def N_sum_of_bits : List Str := ["told", "rest", "byte", "place", "bit", "lead"]
def P_sum_of_bits : List Str := ["told"]
def l_sum_of_bits_2 : Z.Ss := (.cons (.asg 4 (.op .band (.op .shr (.v 2) (.v 3)) (.int 1))) (.cons (.asg 5 (.op .shr (.v 1) (.int 31))) (.cons (.asg 1 (.op .mod (.op .mul (.int 2) (.v 1)) (.gl "TOP" (.int (4294967296))))) (.cons (.ife (.cmp .ne (.v 5) (.v 4)) (.cons (.asg 1 (.op .bxor (.v 1) (.gl "FACTORS" (.int (79764919))))) .nil) .nil) .nil))))
def l_sum_of_bits_1 : Z.Ss := (.cons (.for_ 3 (.rng3 (.int 7) (.neg (.int 1)) (.neg (.int 1))) l_sum_of_bits_2) .nil)
def e_sum_of_bits_1 : Z.E := (.op .band (.op .shr (.v 1) (.op .mul (.int 8) (.v 3))) (.int 255))
def q_sum_of_bits_1 : Z.I := (.it (.tup (.cons (.int 3) (.cons (.int 2) (.cons (.int 1) (.cons (.int 0) .nil))))))
def b_sum_of_bits : Z.Ss := (.cons (.asg 1 (.int 0)) (.cons (.for_ 2 (.it (.v 0)) l_sum_of_bits_1) (.cons (.ret (.comp e_sum_of_bits_1 3 q_sum_of_bits_1 .nil)) .nil)))
abbrev i_sum_of_bits : Nat := 0
abbrev s_sum_of_bits : Stmt := topS 5
/-! 1: block(number, count, data)  -/
def N_block : List Str := ["number", "count", "data", "told"]
def P_block : List Str := ["number", "count", "data"]
def b_block : Z.Ss := (.cons (.asg 3 (.op .add (.lst (.cons (.op .fdiv (.v 0) (.int 256)) (.cons (.op .mod (.v 0) (.int 256)) (.cons (.op .fdiv (.v 1) (.int 256)) (.cons (.op .mod (.v 1) (.int 256)) .nil))))) (.v 2))) (.cons (.ret (.op .add (.v 3) (.call 0 (.cons (.v 3) .nil)))) .nil))
abbrev i_block : Nat := 1
abbrev s_block : Stmt := topS 6
/-! 2: blocks_of(told)  -/
def N_blocks_of : List Str := ["told", "data", "count", "found", "at"]
def P_blocks_of : List Str := ["told"]
def l_blocks_of_1 : Z.Ss := (.cons (.ext 3 (.call 1 (.cons (.op .add (.v 4) (.int 1)) (.cons (.v 2) (.cons (.slv 1 (.cons (.op .mul (.v 4) (.gl "DATA" (.int (56)))) .nil) (.cons (.op .mul (.op .add (.v 4) (.int 1)) (.gl "DATA" (.int (56)))) .nil)) .nil))))) .nil)
def b_blocks_of : Z.Ss := (.cons (.asg 1 (.op .add (.v 0) (.lst (.cons (.int 1) .nil)))) (.cons (.asg 2 (.neg (.op .fdiv (.neg (.lenv 1)) (.gl "DATA" (.int (56)))))) (.cons (.asg 1 (.op .add (.v 1) (.op .mul (.lst (.cons (.int 0) .nil)) (.op .sub (.op .mul (.v 2) (.gl "DATA" (.int (56)))) (.lenv 1))))) (.cons (.asg 3 (.lst .nil)) (.cons (.for_ 4 (.rng1 (.v 2)) l_blocks_of_1) (.cons (.ret (.v 3)) .nil))))))
abbrev i_blocks_of : Nat := 2
abbrev s_blocks_of : Stmt := topS 7
/-! 3: is_block(told, number, count)  -/
def N_is_block : List Str := ["told", "number", "count", "many"]
def P_is_block : List Str := ["told", "number", "count"]
def b_is_block : Z.Ss := (.cons (.ife (.bop false (.cons (.cmp .ne (.lenv 0) (.gl "SIZE" (.int (64)))) (.cons (.cmp .ne (.slv 0 (.cons (.int 60) .nil) .nil) (.call 0 (.cons (.slv 0 .nil (.cons (.int 60) .nil)) .nil))) .nil))) (.cons (.ret (.bl false)) .nil) .nil) (.cons (.asg 3 (.op .add (.op .mul (.int 256) (.ixv 0 (.int 2))) (.ixv 0 (.int 3)))) (.cons (.ret (.bop true (.cons (.cmp .eq (.op .add (.op .mul (.int 256) (.ixv 0 (.int 0))) (.ixv 0 (.int 1))) (.v 1)) (.cons (.cmp .ge (.v 3) (.v 1)) (.cons (.cmp .in_ (.v 2) (.tup (.cons .non (.cons (.v 3) .nil)))) .nil))))) .nil)))
abbrev i_is_block : Nat := 3
abbrev s_is_block : Stmt := topS 8
/-! 4: without_end(data)  -/
def N_without_end : List Str := ["data", "at"]
def P_without_end : List Str := ["data"]
def l_without_end_1 : Z.Ss := (.cons (.asg 1 (.op .sub (.v 1) (.int 1))) .nil)
def b_without_end : Z.Ss := (.cons (.asg 1 (.op .sub (.lenv 0) (.int 1))) (.cons (.while_ (.bop true (.cons (.cmp .ge (.v 1) (.int 0)) (.cons (.cmp .eq (.ixv 0 (.v 1)) (.int 0)) .nil))) l_without_end_1) (.cons (.ret (.ite (.bop true (.cons (.cmp .ge (.v 1) (.int 0)) (.cons (.cmp .eq (.ixv 0 (.v 1)) (.int 1)) .nil))) (.slv 0 .nil (.cons (.v 1) .nil)) .non)) .nil)))
abbrev i_without_end : Nat := 4
abbrev s_without_end : Stmt := topS 9
/-! 5: data_of(told)  -/
def N_data_of : List Str := ["told", "data", "count", "number", "last", "here"]
def P_data_of : List Str := ["told"]
def l_data_of_1 : Z.Ss := (.cons (.asg 5 (.slv 0 (.cons (.op .mul (.gl "SIZE" (.int (64))) (.v 3)) .nil) (.cons (.op .mul (.gl "SIZE" (.int (64))) (.op .add (.v 3) (.int 1))) .nil))) (.cons (.asg 3 (.op .add (.v 3) (.int 1))) (.cons (.ife (.not (.call 3 (.cons (.v 5) (.cons (.v 3) (.cons (.v 2) .nil))))) (.cons (.ret (.tup (.cons (.str "block") (.cons (.v 3) .nil)))) .nil) .nil) (.cons (.asg 2 (.op .add (.op .mul (.int 256) (.ixv 5 (.int 2))) (.ixv 5 (.int 3)))) (.cons (.ext 1 (.slv 5 (.cons (.int 4) .nil) (.cons (.int 60) .nil))) .nil)))))
def b_data_of : Z.Ss := (.cons (.asg 1 (.lst .nil)) (.cons (.asg 2 .non) (.cons (.asg 3 (.int 0)) (.cons (.while_ (.bop false (.cons (.cmp .is (.v 2) .non) (.cons (.cmp .lt (.v 3) (.v 2)) .nil))) l_data_of_1) (.cons (.asg 4 (.call 4 (.cons (.slv 1 (.cons (.neg (.gl "DATA" (.int (56)))) .nil) .nil) .nil))) (.cons (.ife (.cmp .is (.v 4) .non) (.cons (.ret (.tup (.cons (.str "block") (.cons (.v 3) .nil)))) .nil) .nil) (.cons (.ife (.cmp .gt (.lenv 0) (.op .mul (.gl "SIZE" (.int (64))) (.v 2))) (.cons (.ret (.tup (.cons (.str "block") (.cons (.op .add (.v 2) (.int 1)) .nil)))) .nil) .nil) (.cons (.ret (.tup (.cons (.str "data") (.cons (.op .add (.slv 1 .nil (.cons (.neg (.gl "DATA" (.int (56)))) .nil)) (.v 4)) .nil)))) .nil))))))))
abbrev i_data_of : Nat := 5
abbrev s_data_of : Stmt := topS 10
/-! 6: number_bytes(number)  -/
def N_number_bytes : List Str := ["number", "found"]
def P_number_bytes : List Str := ["number"]
def l_number_bytes_1 : Z.Ss := (.cons (.app 1 (.op .add (.int 128) (.op .mod (.v 0) (.int 128)))) (.cons (.asg 0 (.op .fdiv (.v 0) (.int 128))) .nil))
def b_number_bytes : Z.Ss := (.cons (.asg 1 (.lst .nil)) (.cons (.while_ (.cmp .gt (.v 0) (.int 127)) l_number_bytes_1) (.cons (.ret (.op .add (.v 1) (.lst (.cons (.v 0) .nil)))) .nil)))
abbrev i_number_bytes : Nat := 6
abbrev s_number_bytes : Stmt := topS 18
/-! 7: _law_mixed(number, place)  -/
def N_law_mixed : List Str := ["number", "place", "first", "second", "third"]
def P_law_mixed : List Str := ["number", "place"]
def b_law_mixed : Z.Ss := (.cons (.asg 2 (.op .mod (.bi .int (.cons (.op .add (.op .add (.op .mul (.v 0) (.int 48271)) (.op .mul (.v 1) (.int 69621))) (.int 11)) .nil)) (.int 618970019642690137449562111))) (.cons (.asg 3 (.op .mod (.bi .int (.cons (.op .add (.op .add (.op .mul (.v 2) (.v 2)) (.op .mul (.int 7) (.v 2))) (.v 1)) .nil)) (.int 162259276829213363391578010288127))) (.cons (.asg 4 (.op .mod (.bi .int (.cons (.op .add (.op .mul (.v 3) (.v 3)) (.v 2)) .nil)) (.int 618970019642690137449562111))) (.cons (.ret (.op .add (.op .mul (.v 3) (.int 618970019642690137449562111)) (.v 4))) .nil))))
abbrev i_law_mixed : Nat := 7
abbrev s_law_mixed : Stmt := topS 25
/-! 8: _law_rest(script, place, fills)  -/
def N_law_rest : List Str := ["script", "place", "fills", "number"]
def P_law_rest : List Str := ["script", "place", "fills"]
def b_law_rest : Z.Ss := (.cons (.asg 3 (.int 0)) (.cons (.ife (.cmp .gt (.lenv 0) (.int 0)) (.cons (.asg 3 (.bi .int (.cons (.ixv 0 (.op .mod (.bi .int (.cons (.v 1) .nil)) (.lenv 0))) .nil))) .nil) .nil) (.cons (.ife (.cmp .lt (.v 3) (.int 0)) (.cons (.asg 3 (.op .sub (.int 1) (.op .mul (.int 2) (.v 3)))) .nil) .nil) (.cons (.ife (.bop true (.cons (.cmp .eq (.v 2) (.int 0)) (.cons (.cmp .lt (.v 1) (.lenv 0)) (.cons (.cmp .ge (.v 3) (.op .pow (.int 10) (.int 18))) .nil)))) (.cons (.ret (.op .sub (.v 3) (.op .pow (.int 10) (.int 18)))) .nil) .nil) (.cons (.ret (.call 7 (.cons (.op .add (.v 3) (.op .mul (.v 2) (.int 1000003))) (.cons (.v 1) .nil)))) .nil)))))
abbrev i_law_rest : Nat := 8
abbrev s_law_rest : Stmt := topS 26
/-! 9: _law_pool(script)  -/
def N_law_pool : List Str := ["script"]
def P_law_pool : List Str := ["script"]
def b_law_pool : Z.Ss := (.cons (.ret (.lst (.cons (.v 0) (.cons (.int 0) (.cons (.call 8 (.cons (.v 0) (.cons (.int 0) (.cons (.int 0) .nil)))) (.cons (.int 0) .nil)))))) .nil)
abbrev i_law_pool : Nat := 9
abbrev s_law_pool : Stmt := topS 27
/-! 10: _law_next(pool) io -/
def N_law_next : List Str := ["pool"]
def P_law_next : List Str := ["pool"]
def b_law_next : Z.Ss := (.cons (.setix 0 (.int 1) (.op .add (.ixv 0 (.int 1)) (.int 1))) (.cons (.setix 0 (.int 2) (.call 8 (.cons (.ixv 0 (.int 0)) (.cons (.ixv 0 (.int 1)) (.cons (.int 0) .nil))))) (.cons (.setix 0 (.int 3) (.int 0)) .nil)))
abbrev i_law_next : Nat := 10
abbrev s_law_next : Stmt := topS 28
/-! 11: _law_draw(pool, limit) io -/
def N_law_draw : List Str := ["pool", "limit", "value"]
def P_law_draw : List Str := ["pool", "limit"]
def b_law_draw : Z.Ss := (.cons (.ife (.cmp .le (.ixv 0 (.int 2)) (.int 1)) (.cons (.setix 0 (.int 3) (.op .add (.ixv 0 (.int 3)) (.int 1))) (.cons (.setix 0 (.int 2) (.call 8 (.cons (.ixv 0 (.int 0)) (.cons (.ixv 0 (.int 1)) (.cons (.ixv 0 (.int 3)) .nil))))) .nil)) .nil) (.cons (.asg 2 (.op .mod (.bi .int (.cons (.ixv 0 (.int 2)) .nil)) (.v 1))) (.cons (.setix 0 (.int 2) (.op .fdiv (.bi .int (.cons (.ixv 0 (.int 2)) .nil)) (.v 1))) (.cons (.ret (.v 2)) .nil))))
abbrev i_law_draw : Nat := 11
abbrev s_law_draw : Stmt := topS 29
/-! 12: _law_same(answer, due)  -/
def N_law_same : List Str := ["answer", "due", "key", "k"]
def P_law_same : List Str := ["answer", "due"]
def e_law_same_1 : Z.E := (.bop true (.cons (.cmp .in_ (.v 2) (.v 0)) (.cons (.call 12 (.cons (.ixv 0 (.v 2)) (.cons (.ixv 1 (.v 2)) .nil))) .nil)))
def q_law_same_1 : Z.I := (.it (.v 1))
def e_law_same_2 : Z.E := (.call 12 (.cons (.ixv 0 (.v 3)) (.cons (.ixv 1 (.v 3)) .nil)))
def q_law_same_2 : Z.I := (.rng1 (.lenv 1))
def b_law_same : Z.Ss := (.cons (.ife (.isi (.v 1) .dict) (.cons (.ife (.bop false (.cons (.not (.isi (.v 0) .dict)) (.cons (.cmp .ne (.lenv 0) (.lenv 1)) .nil))) (.cons (.ret (.bl false)) .nil) .nil) (.cons (.ret (.bi .all (.cons (.comp e_law_same_1 2 q_law_same_1 .nil) .nil))) .nil)) .nil) (.cons (.ife (.bop false (.cons (.isi (.v 1) .list) (.cons (.isi (.v 1) .tuple) .nil))) (.cons (.ife (.bop false (.cons (.cmp .ne (.isi (.v 1) .list) (.isi (.v 0) .list)) (.cons (.cmp .ne (.isi (.v 1) .tuple) (.isi (.v 0) .tuple)) .nil))) (.cons (.ret (.bl false)) .nil) .nil) (.cons (.ret (.bop true (.cons (.cmp .eq (.lenv 0) (.lenv 1)) (.cons (.bi .all (.cons (.comp e_law_same_2 3 q_law_same_2 .nil) .nil)) .nil)))) .nil)) .nil) (.cons (.ife (.isi (.v 1) .str) (.cons (.ret (.bop true (.cons (.isi (.v 0) .str) (.cons (.cmp .eq (.v 0) (.v 1)) .nil)))) .nil) .nil) (.cons (.ife (.bop false (.cons (.cmp .is (.v 1) .non) (.cons (.cmp .is (.v 1) (.bl true)) (.cons (.cmp .is (.v 1) (.bl false)) .nil)))) (.cons (.ret (.bop false (.cons (.bop true (.cons (.cmp .is (.v 1) .non) (.cons (.cmp .is (.v 0) .non) .nil))) (.cons (.bop true (.cons (.cmp .is (.v 1) (.bl true)) (.cons (.cmp .is (.v 0) (.bl true)) .nil))) (.cons (.bop true (.cons (.cmp .is (.v 1) (.bl false)) (.cons (.cmp .is (.v 0) (.bl false)) .nil))) .nil))))) .nil) .nil) (.cons (.ret (.bop true (.cons (.isi (.v 0) .int) (.cons (.not (.isi (.v 0) .bool)) (.cons (.cmp .eq (.v 0) (.v 1)) .nil))))) .nil)))))
abbrev i_law_same : Nat := 12
abbrev s_law_same : Stmt := topS 31
/-! 13: is_plain(value)  -/
def N_is_plain : List Str := ["value", "queue", "one", "deep", "member", "sign"]
def P_is_plain : List Str := ["value"]
def e_is_plain_1 : Z.E := (.tup (.cons (.v 4) (.cons (.op .add (.v 3) (.int 1)) .nil)))
def q_is_plain_1 : Z.I := (.it (.v 2))
def e_is_plain_2 : Z.E := (.cmp .in_ (.v 5) (.gl "SIGNS" (.str "\n abcdefghijklmnopqrstuvwxyzABCDEFGHIJKLMNOPQRSTUVWXYZ0123456789(),=!<+-.")))
def q_is_plain_2 : Z.I := (.it (.v 2))
def l_is_plain_1 : Z.Ss := (.cons (.asgT [2, 3] (.popv 1)) (.cons (.ife (.bop true (.cons (.isi (.v 2) .tuple) (.cons (.cmp .lt (.v 3) (.gl "DEEPEST" (.int (60)))) .nil))) (.cons (.ext 1 (.comp e_is_plain_1 4 q_is_plain_1 .nil)) .nil) (.cons (.ife (.isi (.v 2) .str) (.cons (.ife (.not (.bi .all (.cons (.comp e_is_plain_2 5 q_is_plain_2 .nil) .nil))) (.cons (.ret (.bl false)) .nil) .nil) .nil) (.cons (.ife (.bop false (.cons (.not (.isi (.v 2) .int)) (.cons (.isi (.v 2) .bool) .nil))) (.cons (.ret (.bl false)) .nil) .nil) .nil)) .nil)) .nil))
def b_is_plain : Z.Ss := (.cons (.asg 1 (.lst (.cons (.tup (.cons (.v 0) (.cons (.int 0) .nil))) .nil))) (.cons (.while_ (.v 1) l_is_plain_1) (.cons (.ret (.bl true)) .nil)))
abbrev i_is_plain : Nat := 13
abbrev s_is_plain : Stmt := topS 17
/-! 14: feeder_of(value)  -/
def N_feeder_of : List Str := ["value", "found"]
def P_feeder_of : List Str := ["value"]
def b_feeder_of : Z.Ss := (.cons (.asg 1 (.new 23 "Feeder")) (.cons (.setf 1 "Feeder" "state" (.ixv 0 (.int 1))) (.cons (.setf 1 "Feeder" "count" (.ite (.cmp .ge (.ixv 0 (.int 2)) (.int 0)) (.ixv 0 (.int 2)) .non)) (.cons (.setf 1 "Feeder" "taken" (.bi .list (.cons (.ixv 0 (.int 3)) .nil))) (.cons (.setf 1 "Feeder" "rest" (.bi .list (.cons (.ixv 0 (.int 4)) .nil))) (.cons (.ret (.v 1)) .nil))))))
abbrev i_feeder_of : Nat := 14
abbrev s_feeder_of : Stmt := topS 12
/-! 15: _law_pick(pool, options) io -/
def N_law_pick : List Str := ["pool", "options"]
def P_law_pick : List Str := ["pool", "options"]
def b_law_pick : Z.Ss := (.cons (.ret (.ixv 1 (.callIO 11 0 (.cons (.lenv 1) .nil)))) .nil)
abbrev i_law_pick : Nat := 15
abbrev s_law_pick : Stmt := topS 30
/-! 16: _law_due(told)  -/
def N_law_due : List Str := ["told", "seen", "many"]
def P_law_due : List Str := ["told"]
def b_law_due : Z.Ss := (.cons (.asg 1 (.call 5 (.cons (.v 0) .nil))) (.cons (.ife (.cmp .eq (.ixv 1 (.int 0)) (.str "data")) (.cons (.ret (.tup (.cons (.str "whole") .nil))) .nil) .nil) (.cons (.asg 2 (.ite (.cmp .gt (.lenv 0) (.int 63)) (.op .add (.op .mul (.int 256) (.ixv 0 (.int 2))) (.ixv 0 (.int 3))) (.int 0))) (.cons (.ife (.bop true (.cons (.cmp .eq (.ixv 1 (.int 1)) (.op .add (.v 2) (.int 1))) (.cons (.cmp .gt (.lenv 0) (.op .mul (.int 64) (.v 2))) (.cons (.cmp .eq (.ix (.call 5 (.cons (.slv 0 .nil (.cons (.op .mul (.int 64) (.v 2)) .nil)) .nil)) (.int 0)) (.str "data")) .nil)))) (.cons (.ret (.tup (.cons (.str "whole") .nil))) .nil) .nil) (.cons (.ret (.ite (.cmp .ge (.lenv 0) (.op .mul (.int 64) (.ixv 1 (.int 1)))) (.v 1) (.tup (.cons (.str "more") .nil)))) .nil)))))
abbrev i_law_due : Nat := 16
abbrev s_law_due : Stmt := topS 32
/-! 17: value_of(told)  -/
def N_value_of : List Str := ["told", "at", "opened", "tag", "_", "value", "%0", "%1", "%2", "%3"]
def P_value_of : List Str := ["told"]
def l_value_of_2 : Z.Ss := (.cons (.ife (.cmp .isn (.v 5) .non) (.cons (.topApp 2 5) (.cons (.asg 5 .non) .nil)) .nil) (.cons (.ife (.cmp .lt (.topLen 2) (.topN 2)) (.cons .brk .nil) .nil) (.cons (.asg 5 (.popT 2)) .nil)))
def l_value_of_1 : Z.Ss := (.cons (.ife (.bop false (.cons (.cmp .ge (.v 1) (.lenv 0)) (.cons (.cmp .gt (.ixv 0 (.v 1)) (.int 2)) (.cons (.bop true (.cons (.cmp .eq (.ixv 0 (.v 1)) (.int 2)) (.cons (.cmp .ge (.lenv 2) (.gl "DEEPEST" (.int (60)))) .nil))) .nil)))) (.cons (.ret (.tup (.cons (.str "wrong") (.cons (.v 1) .nil)))) .nil) .nil) (.cons (.asg 3 (.ixv 0 (.v 1))) (.cons (.asgT [4, 5, 1] (.call 22 (.cons (.v 0) (.cons (.v 1) .nil)))) (.cons (.ife (.cmp .is (.v 5) .non) (.cons (.ret (.tup (.cons (.str "wrong") (.cons (.v 1) .nil)))) .nil) .nil) (.cons (.ife (.cmp .eq (.v 3) (.int 0)) (.cons (.asg 5 (.ite (.cmp .eq (.op .mod (.v 5) (.int 2)) (.int 0)) (.op .fdiv (.v 5) (.int 2)) (.neg (.op .fdiv (.op .add (.v 5) (.int 1)) (.int 2))))) .nil) .nil) (.cons (.ife (.cmp .eq (.v 3) (.int 2)) (.cons (.push 2 6 (.v 5)) (.cons (.asg 5 .non) .nil)) .nil) (.cons (.while_ (.bop true (.cons (.v 2) (.cons (.bop false (.cons (.cmp .isn (.v 5) .non) (.cons (.cmp .eq (.topN 2) (.int 0)) .nil))) .nil))) l_value_of_2) (.cons (.ife (.bop true (.cons (.not (.v 2)) (.cons (.cmp .isn (.v 5) .non) .nil))) (.cons (.ret (.ite (.cmp .eq (.v 1) (.lenv 0)) (.tup (.cons (.str "value") (.cons (.v 5) .nil))) (.tup (.cons (.str "wrong") (.cons (.v 1) .nil))))) .nil) .nil) .nil))))))))
def b_value_of : Z.Ss := (.cons (.asg 1 (.int 0)) (.cons (.mk 2 6) (.cons (.while_ (.bl true) l_value_of_1) .nil)))
abbrev i_value_of : Nat := 17
abbrev s_value_of : Stmt := topS 23
/-! 18: law(script)  -/
def N_law : List Str := ["script", "pool", "told", "whole_blocks", "way", "at", "feeder", "here", "turn", "due", "whole", "one", "k", "size", "piece", "kept"]
def P_law : List Str := ["script"]
def e_law_1 : Z.E := (.callIO 11 1 (.cons (.int 9) .nil))
def q_law_1 : Z.I := (.rng1 (.callIO 11 1 (.cons (.int 200) .nil)))
def e_law_2 : Z.E := (.callIO 11 1 (.cons (.int 256) .nil))
def q_law_2 : Z.I := (.rng1 (.callIO 11 1 (.cons (.int 9) .nil)))
def l_law_1 : Z.Ss := (.cons (.ife (.cmp .lt (.v 7) (.lenv 3)) (.cons (.expr (.callIO 10 1 .nil)) (.cons (.asg 13 (.callIO 11 1 (.cons (.callIO 15 1 (.cons (.lst (.cons (.int 2) (.cons (.int 40) (.cons (.int 200) .nil)))) .nil)) .nil))) (.cons (.asg 14 (.slv 3 (.cons (.v 7) .nil) (.cons (.op .add (.v 7) (.v 13)) .nil))) (.cons (.asg 7 (.op .add (.v 7) (.lenv 14))) (.cons (.ife (.cmp .eq (.callIO 11 1 (.cons (.int 3) .nil)) (.int 0)) (.cons (.asg 15 (.meth 26 6 "Feeder" "told" .nil)) (.cons (.ife (.cmp .isn (.call 13 (.cons (.v 15) .nil)) (.bl true)) (.cons (.ret (.bl false)) .nil) .nil) (.cons (.asg 6 (.call 14 (.cons (.ix (.call 17 (.cons (.call 19 (.cons (.v 15) .nil)) .nil)) (.int 1)) .nil))) .nil))) .nil) (.cons (.ife (.not (.call 12 (.cons (.meth 24 6 "Feeder" "feed" (.cons (.bi .list (.cons (.v 14) .nil)) .nil)) (.cons (.call 16 (.cons (.slv 3 .nil (.cons (.v 7) .nil)) .nil)) .nil)))) (.cons (.ret (.bl false)) .nil) .nil) .nil)))))) .nil) .nil)
def b_law : Z.Ss := (.cons (.asg 1 (.call 9 (.cons (.v 0) .nil))) (.cons (.asg 2 (.comp e_law_1 12 q_law_1 .nil)) (.cons (.expr (.callIO 10 1 .nil)) (.cons (.asg 3 (.call 2 (.cons (.v 2) .nil))) (.cons (.asg 4 (.callIO 11 1 (.cons (.int 5) .nil))) (.cons (.asg 5 (.callIO 11 1 (.cons (.lenv 3) .nil))) (.cons (.ife (.cmp .eq (.v 4) (.int 0)) (.cons (.asg 3 (.slv 3 .nil (.cons (.v 5) .nil))) .nil) (.cons (.ife (.cmp .eq (.v 4) (.int 1)) (.cons (.asg 3 (.op .add (.op .add (.slv 3 .nil (.cons (.v 5) .nil)) (.lst (.cons (.op .mod (.bi .int (.cons (.op .add (.ixv 3 (.v 5)) (.int 1)) .nil)) (.int 256)) .nil))) (.slv 3 (.cons (.op .add (.v 5) (.int 1)) .nil) .nil))) .nil) (.cons (.ife (.cmp .eq (.v 4) (.int 2)) (.cons (.asg 3 (.op .add (.v 3) (.comp e_law_2 12 q_law_2 .nil))) .nil) (.cons (.ife (.cmp .eq (.v 4) (.int 3)) (.cons (.asg 3 (.op .add (.slv 3 (.cons (.int 64) .nil) .nil) (.slv 3 .nil (.cons (.int 64) .nil)))) .nil) .nil) .nil)) .nil)) .nil)) (.cons (.asg 6 (.new 23 "Feeder")) (.cons (.asg 7 (.int 0)) (.cons (.for_ 8 (.rng1 (.int 400)) l_law_1) (.cons (.asg 9 (.call 16 (.cons (.v 3) .nil))) (.cons (.ife (.cmp .lt (.v 7) (.lenv 3)) (.cons (.ret (.bl true)) .nil) .nil) (.cons (.asg 10 (.call 5 (.cons (.ite (.cmp .ne (.v 4) (.int 2)) (.v 3) (.call 2 (.cons (.v 2) .nil))) .nil))) (.cons (.ife (.not (.call 12 (.cons (.meth 27 6 "Feeder" "data" .nil) (.cons (.ite (.cmp .eq (.v 9) (.tup (.cons (.str "whole") .nil))) (.ixv 10 (.int 1)) .non) .nil)))) (.cons (.ret (.bl false)) .nil) .nil) (.cons (.asg 11 (.new 23 "Feeder")) (.cons (.ret (.bop true (.cons (.call 12 (.cons (.meth 24 11 "Feeder" "feed" (.cons (.bi .list (.cons (.v 3) .nil)) .nil)) (.cons (.v 9) .nil))) (.cons (.call 12 (.cons (.meth 27 11 "Feeder" "data" .nil) (.cons (.meth 27 6 "Feeder" "data" .nil) .nil))) (.cons (.call 12 (.cons (.meth 24 11 "Feeder" "feed" (.cons (.lst (.cons (.int 1) (.cons (.int 2) (.cons (.int 3) .nil)))) .nil)) (.cons (.ite (.cmp .ne (.v 9) (.tup (.cons (.str "more") .nil))) (.v 9) (.call 16 (.cons (.op .add (.v 3) (.lst (.cons (.int 1) (.cons (.int 2) (.cons (.int 3) .nil))))) .nil))) .nil))) .nil))))) .nil))))))))))))))))
abbrev i_law : Nat := 18
abbrev s_law : Stmt := topS 33
/-! 19: bytes_of(value)  -/
def N_bytes_of : List Str := ["value", "found", "queue", "one", "sign"]
def P_bytes_of : List Str := ["value"]
def e_bytes_of_1 : Z.E := (.me .index (.gl "SIGNS" (.str "\n abcdefghijklmnopqrstuvwxyzABCDEFGHIJKLMNOPQRSTUVWXYZ0123456789(),=!<+-.")) (.v 4))
def q_bytes_of_1 : Z.I := (.it (.v 3))
def l_bytes_of_1 : Z.Ss := (.cons (.asg 3 (.popv 2)) (.cons (.ife (.isi (.v 3) .tuple) (.cons (.ext 1 (.op .add (.lst (.cons (.int 2) .nil)) (.call 6 (.cons (.lenv 3) .nil)))) (.cons (.ext 2 (.rev (.v 3))) .nil)) (.cons (.ife (.isi (.v 3) .str) (.cons (.ext 1 (.op .add (.lst (.cons (.int 1) .nil)) (.call 6 (.cons (.lenv 3) .nil)))) (.cons (.ext 1 (.comp e_bytes_of_1 4 q_bytes_of_1 .nil)) .nil)) (.cons (.ext 1 (.op .add (.lst (.cons (.int 0) .nil)) (.call 6 (.cons (.ite (.cmp .ge (.v 3) (.int 0)) (.op .mul (.int 2) (.v 3)) (.op .sub (.op .mul (.neg (.int 2)) (.v 3)) (.int 1))) .nil)))) .nil)) .nil)) .nil))
def b_bytes_of : Z.Ss := (.cons (.asg 1 (.lst .nil)) (.cons (.asg 2 (.lst (.cons (.v 0) .nil))) (.cons (.while_ (.v 2) l_bytes_of_1) (.cons (.ret (.v 1)) .nil))))
abbrev i_bytes_of : Nat := 19
abbrev s_bytes_of : Stmt := topS 19
/-! 20: read_number(told, at)  -/
def N_read_number : List Str := ["told", "at", "number", "worth", "first", "byte"]
def P_read_number : List Str := ["told", "at"]
def l_read_number_1 : Z.Ss := (.cons (.asg 5 (.ixv 0 (.v 1))) (.cons (.ife (.bop true (.cons (.cmp .eq (.v 5) (.int 0)) (.cons (.cmp .gt (.v 1) (.v 4)) .nil))) (.cons (.ret (.tup (.cons .non (.cons (.v 1) .nil)))) .nil) .nil) (.cons (.asg 2 (.op .add (.v 2) (.op .mul (.v 3) (.op .mod (.v 5) (.int 128))))) (.cons (.asg 3 (.op .mul (.int 128) (.v 3))) (.cons (.asg 1 (.op .add (.v 1) (.int 1))) (.cons (.ife (.cmp .lt (.v 5) (.int 128)) (.cons (.ret (.tup (.cons (.v 2) (.cons (.v 1) .nil)))) .nil) .nil) .nil))))))
def b_read_number : Z.Ss := (.cons (.asg 2 (.int 0)) (.cons (.asg 3 (.int 1)) (.cons (.asg 4 (.v 1)) (.cons (.while_ (.cmp .lt (.v 1) (.lenv 0)) l_read_number_1) (.cons (.ret (.tup (.cons .non (.cons (.v 1) .nil)))) .nil)))))
abbrev i_read_number : Nat := 20
abbrev s_read_number : Stmt := topS 20
/-! 21: read_string(told, at)  -/
def N_read_string : List Str := ["told", "at", "signs", "count"]
def P_read_string : List Str := ["told", "at"]
def l_read_string_1 : Z.Ss := (.cons (.ife (.bop false (.cons (.cmp .ge (.v 1) (.lenv 0)) (.cons (.cmp .ge (.ixv 0 (.v 1)) (.bi .len (.cons (.gl "SIGNS" (.str "\n abcdefghijklmnopqrstuvwxyzABCDEFGHIJKLMNOPQRSTUVWXYZ0123456789(),=!<+-.")) .nil))) .nil))) (.cons (.ret (.tup (.cons .non (.cons (.v 1) .nil)))) .nil) .nil) (.cons (.app 2 (.ix (.gl "SIGNS" (.str "\n abcdefghijklmnopqrstuvwxyzABCDEFGHIJKLMNOPQRSTUVWXYZ0123456789(),=!<+-.")) (.ixv 0 (.v 1)))) (.cons (.asg 1 (.op .add (.v 1) (.int 1))) .nil)))
def b_read_string : Z.Ss := (.cons (.asgT [3, 1] (.call 20 (.cons (.v 0) (.cons (.v 1) .nil)))) (.cons (.ife (.cmp .is (.v 3) .non) (.cons (.ret (.tup (.cons .non (.cons (.v 1) .nil)))) .nil) .nil) (.cons (.asg 2 (.lst .nil)) (.cons (.while_ (.cmp .lt (.lenv 2) (.v 3)) l_read_string_1) (.cons (.ret (.tup (.cons (.me .join (.str "") (.v 2)) (.cons (.v 1) .nil)))) .nil)))))
abbrev i_read_string : Nat := 21
abbrev s_read_string : Stmt := topS 21
/-! 22: read_one(told, at)  -/
def N_read_one : List Str := ["told", "at", "number", "value"]
def P_read_one : List Str := ["told", "at"]
def b_read_one : Z.Ss := (.cons (.ife (.cmp .eq (.ixv 0 (.v 1)) (.int 1)) (.cons (.asgT [3, 1] (.call 21 (.cons (.v 0) (.cons (.op .add (.v 1) (.int 1)) .nil)))) (.cons (.ret (.tup (.cons (.str "value") (.cons (.v 3) (.cons (.v 1) .nil))))) .nil)) .nil) (.cons (.asgT [2, 1] (.call 20 (.cons (.v 0) (.cons (.op .add (.v 1) (.int 1)) .nil)))) (.cons (.ret (.tup (.cons (.str "number") (.cons (.v 2) (.cons (.v 1) .nil))))) .nil)))
abbrev i_read_one : Nat := 22
abbrev s_read_one : Stmt := topS 22
/-! 23: Feeder.__init__(self)  -/
def N_Feeder_init : List Str := ["self"]
def P_Feeder_init : List Str := ["self"]
def b_Feeder_init : Z.Ss := (.cons (.setf 0 "Feeder" "state" (.tup (.cons (.str "more") .nil))) (.cons (.setf 0 "Feeder" "count" .non) (.cons (.setf 0 "Feeder" "taken" (.lst .nil)) (.cons (.setf 0 "Feeder" "rest" (.lst .nil)) .nil))))
abbrev i_Feeder_init : Nat := 23
abbrev s_Feeder_init : Stmt := inClass (topS 13) 0
/-! 24: Feeder.feed(self, told)  -/
def N_Feeder_feed : List Str := ["self", "told", "here"]
def P_Feeder_feed : List Str := ["self", "told"]
def l_Feeder_feed_1 : Z.Ss := (.cons (.asg 2 (.sl (.fld 0 "Feeder" "rest") .nil (.cons (.gl "SIZE" (.int (64))) .nil))) (.cons (.setf 0 "Feeder" "rest" (.sl (.fld 0 "Feeder" "rest") (.cons (.gl "SIZE" (.int (64))) .nil) .nil)) (.cons (.expr (.meth 25 0 "Feeder" "take" (.cons (.v 2) .nil))) .nil)))
def b_Feeder_feed : Z.Ss := (.cons (.ife (.cmp .eq (.fld 0 "Feeder" "state") (.tup (.cons (.str "more") .nil))) (.cons (.setf 0 "Feeder" "rest" (.op .add (.fld 0 "Feeder" "rest") (.bi .list (.cons (.v 1) .nil)))) .nil) .nil) (.cons (.while_ (.bop true (.cons (.cmp .eq (.fld 0 "Feeder" "state") (.tup (.cons (.str "more") .nil))) (.cons (.cmp .ge (.bi .len (.cons (.fld 0 "Feeder" "rest") .nil)) (.gl "SIZE" (.int (64)))) .nil))) l_Feeder_feed_1) (.cons (.ife (.cmp .ne (.fld 0 "Feeder" "state") (.tup (.cons (.str "more") .nil))) (.cons (.setf 0 "Feeder" "rest" (.lst .nil)) .nil) .nil) (.cons (.ret (.fld 0 "Feeder" "state")) .nil))))
abbrev i_Feeder_feed : Nat := 24
abbrev s_Feeder_feed : Stmt := inClass (topS 13) 1
/-! 25: Feeder.take(self, here)  -/
def N_Feeder_take : List Str := ["self", "here", "number", "whole"]
def P_Feeder_take : List Str := ["self", "here"]
def b_Feeder_take : Z.Ss := (.cons (.asg 2 (.op .add (.op .fdiv (.bi .len (.cons (.fld 0 "Feeder" "taken") .nil)) (.gl "DATA" (.int (56)))) (.int 1))) (.cons (.ife (.not (.call 3 (.cons (.v 1) (.cons (.v 2) (.cons (.fld 0 "Feeder" "count") .nil))))) (.cons (.setf 0 "Feeder" "state" (.tup (.cons (.str "block") (.cons (.v 2) .nil)))) (.cons .retN .nil)) .nil) (.cons (.setf 0 "Feeder" "count" (.op .add (.op .mul (.int 256) (.ixv 1 (.int 2))) (.ixv 1 (.int 3)))) (.cons (.setf 0 "Feeder" "taken" (.op .add (.fld 0 "Feeder" "taken") (.slv 1 (.cons (.int 4) .nil) (.cons (.int 60) .nil)))) (.cons (.ife (.cmp .eq (.v 2) (.fld 0 "Feeder" "count")) (.cons (.asg 3 (.cmp .isn (.call 4 (.cons (.sl (.fld 0 "Feeder" "taken") (.cons (.neg (.gl "DATA" (.int (56)))) .nil) .nil) .nil)) .non)) (.cons (.setf 0 "Feeder" "state" (.ite (.v 3) (.tup (.cons (.str "whole") .nil)) (.tup (.cons (.str "block") (.cons (.v 2) .nil))))) .nil)) .nil) .nil)))))
abbrev i_Feeder_take : Nat := 25
abbrev s_Feeder_take : Stmt := inClass (topS 13) 2
/-! 26: Feeder.told(self)  -/
def N_Feeder_told : List Str := ["self", "count"]
def P_Feeder_told : List Str := ["self"]
def b_Feeder_told : Z.Ss := (.cons (.asg 1 (.ite (.cmp .is (.fld 0 "Feeder" "count") .non) (.neg (.int 1)) (.fld 0 "Feeder" "count"))) (.cons (.ret (.tup (.cons (.str "feeder") (.cons (.fld 0 "Feeder" "state") (.cons (.v 1) (.cons (.bi .tuple (.cons (.fld 0 "Feeder" "taken") .nil)) (.cons (.bi .tuple (.cons (.fld 0 "Feeder" "rest") .nil)) .nil))))))) .nil))
abbrev i_Feeder_told : Nat := 26
abbrev s_Feeder_told : Stmt := inClass (topS 13) 3
/-! 27: Feeder.data(self)  -/
def N_Feeder_data : List Str := ["self"]
def P_Feeder_data : List Str := ["self"]
def b_Feeder_data : Z.Ss := (.cons (.ife (.cmp .ne (.fld 0 "Feeder" "state") (.tup (.cons (.str "whole") .nil))) (.cons (.ret .non) .nil) .nil) (.cons (.ret (.op .add (.sl (.fld 0 "Feeder" "taken") .nil (.cons (.neg (.gl "DATA" (.int (56)))) .nil)) (.call 4 (.cons (.sl (.fld 0 "Feeder" "taken") (.cons (.neg (.gl "DATA" (.int (56)))) .nil) .nil) .nil)))) .nil))
abbrev i_Feeder_data : Nat := 27
abbrev s_Feeder_data : Stmt := inClass (topS 13) 4
def tb : Z.Tb where
  T := [.py 6 b_sum_of_bits, .py 4 b_block, .py 5 b_blocks_of, .py 4 b_is_block, .py 2 b_without_end, .py 6 b_data_of, .py 2 b_number_bytes, .py 5 b_law_mixed, .py 4 b_law_rest, .py 1 b_law_pool, .py 1 b_law_next, .py 3 b_law_draw, .py 4 b_law_same, .py 6 b_is_plain, .py 2 b_feeder_of, .py 2 b_law_pick, .py 3 b_law_due, .py 10 b_value_of, .py 16 b_law, .py 5 b_bytes_of, .py 6 b_read_number, .py 4 b_read_string, .py 4 b_read_one, .py 1 b_Feeder_init, .py 3 b_Feeder_feed, .py 4 b_Feeder_take, .py 2 b_Feeder_told, .py 1 b_Feeder_data]
  fn := ["sum_of_bits", "block", "blocks_of", "is_block", "without_end", "data_of", "number_bytes", "_law_mixed", "_law_rest", "_law_pool", "_law_next", "_law_draw", "_law_same", "is_plain", "feeder_of", "_law_pick", "_law_due", "value_of", "law", "bytes_of", "read_number", "read_string", "read_one"]
  np := [1, 3, 1, 3, 1, 1, 1, 2, 3, 1, 1, 2, 2, 1, 1, 2, 1, 1, 1, 1, 2, 2, 2, 1, 2, 2, 1, 1]
  gc := [("DATA", .int 56), ("DEEPEST", .int 60), ("FACTORS", .int 79764919), ("SIGNS", .str "\n abcdefghijklmnopqrstuvwxyzABCDEFGHIJKLMNOPQRSTUVWXYZ0123456789(),=!<+-."), ("SIZE", .int 64), ("TOP", .int 4294967296)]
  nb := ["all", "bool", "dict", "int", "isinstance", "len", "list", "range", "str", "tuple"]
  ms := [(23, "Feeder", "__init__"), (24, "Feeder", "feed"), (25, "Feeder", "take"), (26, "Feeder", "told"), (27, "Feeder", "data")]
  fl := [("Feeder", "state"), ("Feeder", "count"), ("Feeder", "taken"), ("Feeder", "rest")]
  mks := ["Feeder"]
theorem m_sum_of_bits : Z.isSs tb N_sum_of_bits (defScope s_sum_of_bits) b_sum_of_bits (defBody s_sum_of_bits) = true := by decide +kernel
theorem sc_sum_of_bits : FnScope N_sum_of_bits P_sum_of_bits (defScope s_sum_of_bits) := ⟨rfl, rfl, rfl, by decide +kernel, rfl, by decide +kernel, by decide +kernel⟩
theorem m_block : Z.isSs tb N_block (defScope s_block) b_block (defBody s_block) = true := by decide +kernel
theorem sc_block : FnScope N_block P_block (defScope s_block) := ⟨rfl, rfl, rfl, by decide +kernel, rfl, by decide +kernel, by decide +kernel⟩
theorem m_blocks_of : Z.isSs tb N_blocks_of (defScope s_blocks_of) b_blocks_of (defBody s_blocks_of) = true := by decide +kernel
theorem sc_blocks_of : FnScope N_blocks_of P_blocks_of (defScope s_blocks_of) := ⟨rfl, rfl, rfl, by decide +kernel, rfl, by decide +kernel, by decide +kernel⟩
theorem m_is_block : Z.isSs tb N_is_block (defScope s_is_block) b_is_block (defBody s_is_block) = true := by decide +kernel
theorem sc_is_block : FnScope N_is_block P_is_block (defScope s_is_block) := ⟨rfl, rfl, rfl, by decide +kernel, rfl, by decide +kernel, by decide +kernel⟩
theorem m_without_end : Z.isSs tb N_without_end (defScope s_without_end) b_without_end (defBody s_without_end) = true := by decide +kernel
theorem sc_without_end : FnScope N_without_end P_without_end (defScope s_without_end) := ⟨rfl, rfl, rfl, by decide +kernel, rfl, by decide +kernel, by decide +kernel⟩
theorem m_data_of : Z.isSs tb N_data_of (defScope s_data_of) b_data_of (defBody s_data_of) = true := by decide +kernel
theorem sc_data_of : FnScope N_data_of P_data_of (defScope s_data_of) := ⟨rfl, rfl, rfl, by decide +kernel, rfl, by decide +kernel, by decide +kernel⟩
theorem m_number_bytes : Z.isSs tb N_number_bytes (defScope s_number_bytes) b_number_bytes (defBody s_number_bytes) = true := by decide +kernel
theorem sc_number_bytes : FnScope N_number_bytes P_number_bytes (defScope s_number_bytes) := ⟨rfl, rfl, rfl, by decide +kernel, rfl, by decide +kernel, by decide +kernel⟩
theorem m_law_mixed : Z.isSs tb N_law_mixed (defScope s_law_mixed) b_law_mixed (defBody s_law_mixed) = true := by decide +kernel
theorem sc_law_mixed : FnScope N_law_mixed P_law_mixed (defScope s_law_mixed) := ⟨rfl, rfl, rfl, by decide +kernel, rfl, by decide +kernel, by decide +kernel⟩
theorem m_law_rest : Z.isSs tb N_law_rest (defScope s_law_rest) b_law_rest (defBody s_law_rest) = true := by decide +kernel
theorem sc_law_rest : FnScope N_law_rest P_law_rest (defScope s_law_rest) := ⟨rfl, rfl, rfl, by decide +kernel, rfl, by decide +kernel, by decide +kernel⟩
theorem m_law_pool : Z.isSs tb N_law_pool (defScope s_law_pool) b_law_pool (defBody s_law_pool) = true := by decide +kernel
theorem sc_law_pool : FnScope N_law_pool P_law_pool (defScope s_law_pool) := ⟨rfl, rfl, rfl, by decide +kernel, rfl, by decide +kernel, by decide +kernel⟩
theorem m_law_next : Z.isSs tb N_law_next (defScope s_law_next) b_law_next (defBody s_law_next) = true := by decide +kernel
theorem sc_law_next : FnScope N_law_next P_law_next (defScope s_law_next) := ⟨rfl, rfl, rfl, by decide +kernel, rfl, by decide +kernel, by decide +kernel⟩
theorem m_law_draw : Z.isSs tb N_law_draw (defScope s_law_draw) b_law_draw (defBody s_law_draw) = true := by decide +kernel
theorem sc_law_draw : FnScope N_law_draw P_law_draw (defScope s_law_draw) := ⟨rfl, rfl, rfl, by decide +kernel, rfl, by decide +kernel, by decide +kernel⟩
theorem m_law_same : Z.isSs tb N_law_same (defScope s_law_same) b_law_same (defBody s_law_same) = true := by decide +kernel
theorem sc_law_same : FnScope N_law_same P_law_same (defScope s_law_same) := ⟨rfl, rfl, rfl, by decide +kernel, rfl, by decide +kernel, by decide +kernel⟩
theorem m_is_plain : Z.isSs tb N_is_plain (defScope s_is_plain) b_is_plain (defBody s_is_plain) = true := by decide +kernel
theorem sc_is_plain : FnScope N_is_plain P_is_plain (defScope s_is_plain) := ⟨rfl, rfl, rfl, by decide +kernel, rfl, by decide +kernel, by decide +kernel⟩
theorem m_feeder_of : Z.isSs tb N_feeder_of (defScope s_feeder_of) b_feeder_of (defBody s_feeder_of) = true := by decide +kernel
theorem sc_feeder_of : FnScope N_feeder_of P_feeder_of (defScope s_feeder_of) := ⟨rfl, rfl, rfl, by decide +kernel, rfl, by decide +kernel, by decide +kernel⟩
theorem m_law_pick : Z.isSs tb N_law_pick (defScope s_law_pick) b_law_pick (defBody s_law_pick) = true := by decide +kernel
theorem sc_law_pick : FnScope N_law_pick P_law_pick (defScope s_law_pick) := ⟨rfl, rfl, rfl, by decide +kernel, rfl, by decide +kernel, by decide +kernel⟩
theorem m_law_due : Z.isSs tb N_law_due (defScope s_law_due) b_law_due (defBody s_law_due) = true := by decide +kernel
theorem sc_law_due : FnScope N_law_due P_law_due (defScope s_law_due) := ⟨rfl, rfl, rfl, by decide +kernel, rfl, by decide +kernel, by decide +kernel⟩
theorem m_value_of : Z.isSs tb N_value_of (defScope s_value_of) b_value_of (defBody s_value_of) = true := by decide +kernel
theorem sc_value_of : FnScope N_value_of P_value_of (defScope s_value_of) := ⟨rfl, rfl, rfl, by decide +kernel, rfl, by decide +kernel, by decide +kernel⟩
theorem m_law : Z.isSs tb N_law (defScope s_law) b_law (defBody s_law) = true := by decide +kernel
theorem sc_law : FnScope N_law P_law (defScope s_law) := ⟨rfl, rfl, rfl, by decide +kernel, rfl, by decide +kernel, by decide +kernel⟩
theorem m_bytes_of : Z.isSs tb N_bytes_of (defScope s_bytes_of) b_bytes_of (defBody s_bytes_of) = true := by decide +kernel
theorem sc_bytes_of : FnScope N_bytes_of P_bytes_of (defScope s_bytes_of) := ⟨rfl, rfl, rfl, by decide +kernel, rfl, by decide +kernel, by decide +kernel⟩
theorem m_read_number : Z.isSs tb N_read_number (defScope s_read_number) b_read_number (defBody s_read_number) = true := by decide +kernel
theorem sc_read_number : FnScope N_read_number P_read_number (defScope s_read_number) := ⟨rfl, rfl, rfl, by decide +kernel, rfl, by decide +kernel, by decide +kernel⟩
theorem m_read_string : Z.isSs tb N_read_string (defScope s_read_string) b_read_string (defBody s_read_string) = true := by decide +kernel
theorem sc_read_string : FnScope N_read_string P_read_string (defScope s_read_string) := ⟨rfl, rfl, rfl, by decide +kernel, rfl, by decide +kernel, by decide +kernel⟩
theorem m_read_one : Z.isSs tb N_read_one (defScope s_read_one) b_read_one (defBody s_read_one) = true := by decide +kernel
theorem sc_read_one : FnScope N_read_one P_read_one (defScope s_read_one) := ⟨rfl, rfl, rfl, by decide +kernel, rfl, by decide +kernel, by decide +kernel⟩
theorem m_Feeder_init : Z.isSs tb N_Feeder_init (defScope s_Feeder_init) b_Feeder_init (defBody s_Feeder_init) = true := by decide +kernel
theorem sc_Feeder_init : FnScope N_Feeder_init P_Feeder_init (defScope s_Feeder_init) := ⟨rfl, rfl, rfl, by decide +kernel, rfl, by decide +kernel, by decide +kernel⟩
theorem m_Feeder_feed : Z.isSs tb N_Feeder_feed (defScope s_Feeder_feed) b_Feeder_feed (defBody s_Feeder_feed) = true := by decide +kernel
theorem sc_Feeder_feed : FnScope N_Feeder_feed P_Feeder_feed (defScope s_Feeder_feed) := ⟨rfl, rfl, rfl, by decide +kernel, rfl, by decide +kernel, by decide +kernel⟩
theorem m_Feeder_take : Z.isSs tb N_Feeder_take (defScope s_Feeder_take) b_Feeder_take (defBody s_Feeder_take) = true := by decide +kernel
theorem sc_Feeder_take : FnScope N_Feeder_take P_Feeder_take (defScope s_Feeder_take) := ⟨rfl, rfl, rfl, by decide +kernel, rfl, by decide +kernel, by decide +kernel⟩
theorem m_Feeder_told : Z.isSs tb N_Feeder_told (defScope s_Feeder_told) b_Feeder_told (defBody s_Feeder_told) = true := by decide +kernel
theorem sc_Feeder_told : FnScope N_Feeder_told P_Feeder_told (defScope s_Feeder_told) := ⟨rfl, rfl, rfl, by decide +kernel, rfl, by decide +kernel, by decide +kernel⟩
theorem m_Feeder_data : Z.isSs tb N_Feeder_data (defScope s_Feeder_data) b_Feeder_data (defBody s_Feeder_data) = true := by decide +kernel
theorem sc_Feeder_data : FnScope N_Feeder_data P_Feeder_data (defScope s_Feeder_data) := ⟨rfl, rfl, rfl, by decide +kernel, rfl, by decide +kernel, by decide +kernel⟩
end K48
namespace K48
open PySem PySem.Spec PyProof.Rows Z
local macro_rules | `(tactic| walk_at "z") => `(tactic| simp (disch := first | omega | assumption | decide | (apply IsP.l; assumption)) only [IFP, IFdiv, IFpow, IFT, IFtt, sh_int, sh_bool, sh_none, sh_L, Bool.and_self, Bool.true_and, Bool.and_true, flatD, List.all_cons, List.all_nil, List.length_cons, List.length_nil, decide_true, decide_false, Bool.not_false, Bool.not_true, eqv_int, eqv_L, evSs, evS, evE, evEs, evI, mE, msCons, msNil, Es.isNil, cV, cC, cGl, vOf, cOp, opD, addD, mulD, Z.intD, mulOk_l, mulOk_r, cNeg, cCmp, cmpD, ordD, cNot, cIte, cLst, cTup, cCall, cCallIO, cBi, biD, lenD, listD, tupleD, int1D, int2D, allD, sumD, intsD, boolsD, strD, cIsi, isiD, cPopv, cMe, meD, cRev, revD, sMk, seqD, cLenv, cIxv, cSlv, cIx, ixD, cSl, slD, tE, tV, tNot, truD, esCons, bCons, tCons, tsCons, pOne, iIt, iRng, iEnu, tupOf, itD, rangeD, sAsg, sAsgT, sSetix, sApp, sExt, sExpr, sRet, sRetV, sIf, rdV, rdR, ownAt, putO, put1, ioB_no, ioB_imm, ioB_own, ioB_gs, putT, putR, fz, Res.d, O.d, Slot.o,
  List.getElem?_cons_zero, List.getElem?_cons_succ, List.set_cons_zero, List.set_cons_succ, if_true, if_false, ite_true, ite_false, Bool.false_eq_true, reduceIte])
local macro_rules | `(tactic| walk_at "zs") => `(tactic| simp (disch := first | omega | assumption | decide | (apply IsP.l; assumption)) only [IFP, IFdiv, IFpow, IFT, IFtt, sh_int, sh_bool, sh_none, sh_L, Bool.and_self, Bool.true_and, Bool.and_true, flatD, List.all_cons, List.all_nil, List.length_cons, List.length_nil, decide_true, decide_false, Bool.not_false, Bool.not_true, eqv_int, eqv_L, evSs, evS, evE, evEs, evI, mE, msCons, msNil, Es.isNil, cV, cC, cGl, vOf, cOp, opD, addD, mulD, Z.intD, mulOk_l, mulOk_r, cNeg, cCmp, cmpD, ordD, cNot, cIte, cLst, cTup, cCall, cCallIO, cBi, biD, lenD, listD, tupleD, int1D, int2D, allD, sumD, intsD, boolsD, strD, cIsi, isiD, cPopv, cMe, meD, cRev, revD, sMk, seqD, cLenv, cIxv, cSlv, cIx, ixD, cSl, slD, tE, tV, tNot, truD, esCons, bCons, tCons, tsCons, pOne, iIt, iRng, iEnu, tupOf, itD, rangeD, sAsg, sAsgT, sSetix, sApp, sExt, sExpr, sRet, sRetV, sIf, rdV, rdR, ownAt, putO, put1, ioB_no, ioB_imm, ioB_own, ioB_gs, putT, putR, fz, Res.d, O.d, Slot.o,
  List.getElem?_cons_zero, List.getElem?_cons_succ, List.set_cons_zero, List.set_cons_succ, if_true, if_false, ite_true, ite_false, Bool.false_eq_true, reduceIte, *])
abbrev isB (bs : List Int) : Prop := ∀ b ∈ bs, 0 ≤ b ∧ b < 256
def bitsB (b : Nat) : List Bool := (List.range 8).map fun k => b.testBit (7 - k)
def bitsOf (bs : List Int) : List Bool := bs.flatMap fun b => bitsB b.toNat
def sum4 (s : Nat) : List Int := [((s / 2 ^ 24 % 256 : Nat) : Int), ((s / 2 ^ 16 % 256 : Nat) : Int), ((s / 2 ^ 8 % 256 : Nat) : Int), ((s % 256 : Nat) : Int)]
def sumB (bs : List Int) : List Int := sum4 (Crc.crc 0 (bitsOf bs))
theorem div_pow (n : Int) (h : 0 ≤ n) (p : Nat) : n / 2 ^ p = ((n.toNat / 2 ^ p : Nat) : Int) := by
  obtain ⟨m, rfl⟩ : ∃ m : Nat, n = m := ⟨n.toNat, by omega⟩
  rw [Int.toNat_natCast, Int.natCast_ediv, Int.natCast_pow]
  rfl
theorem bit_mod (m p : Nat) : m / 2 ^ p % 2 = if m.testBit p then 1 else 0 := by
  rw [Nat.testBit_eq_decide_div_mod_eq]
  by_cases h : m / 2 ^ p % 2 = 1
  · rw [h]
    simp
  · have : m / 2 ^ p % 2 = 0 := by omega
    rw [this]
    simp
theorem bit_op (n : Int) (h : 0 ≤ n) (p : Nat) : Builtin.bitAnd (n / 2 ^ p) 1 = if n.toNat.testBit p then 1 else 0 := by
  rw [div_pow n h, bitAnd_m1]
  have := bit_mod n.toNat p
  split
  · rename_i hb
    rw [if_pos hb] at this
    omega
  · rename_i hb
    rw [if_neg hb] at this
    omega
theorem lead_op (s : Nat) (h : s < 2 ^ 32) : (s : Int) / 2 ^ Int.toNat 31 = if s.testBit 31 then 1 else 0 := by
  have := bit_mod s 31
  have e : (s : Int) / 2 ^ Int.toNat 31 = ((s / 2 ^ 31 : Nat) : Int) := div_pow s (by omega) 31
  rw [e]
  have h2 : s / 2 ^ 31 < 2 := by omega
  split
  · rename_i hb
    rw [if_pos hb] at this
    omega
  · rename_i hb
    rw [if_neg hb] at this
    omega
theorem dbl_op (s : Nat) : (2 * (s : Int)).fmod 4294967296 = ((2 * s % 2 ^ 32 : Nat) : Int) := by
  rw [Int.fmod_eq_emod_of_nonneg _ (by decide)]
  omega
theorem take_st (s : Nat) (l : List Bool) (j : Nat) (b : Bool) (h : l[j]? = some b) : Crc.crc s (l.take (j + 1)) = Crc.st (Crc.crc s (l.take j)) b := by
  rw [List.take_add_one, h]
  show Crc.crc s (l.take j ++ [b]) = _
  rw [Crc.crc_app]
  rfl
theorem bitsB_at (m j : Nat) (h : j < 8) : (bitsB m)[j]? = some (m.testBit (7 - j)) := by
  unfold bitsB
  rw [List.getElem?_map, List.getElem?_range h]
  rfl
theorem bitsB_len (m : Nat) : (bitsB m).length = 8 := by simp [bitsB]
theorem bitsOf_take (bs : List Int) (i : Nat) (n : Int) (h : bs[i]? = some n) : bitsOf (bs.take (i + 1)) = bitsOf (bs.take i) ++ bitsB n.toNat := by
  rw [List.take_add_one, h]
  unfold bitsOf
  rw [List.flatMap_append]
  simp
theorem f_sum (k : Nat) (bs : List Int) (h : isB bs) : run tb.T (k + 1) i_sum_of_bits none [.list (L bs)] = some (.own (.lst (L (sumB bs))), none) := by
  show runD (run tb.T k) 6 b_sum_of_bits none [.list (L bs)] = _
  refine runD_of ?_
  show W (evSs _ b_sum_of_bits [.imm (.list (L bs)), .no, .no, .no, .no, .no]) _
  unfold b_sum_of_bits
  refine W_next (by walk_at "z"; rfl) ?_
  refine W_cons ?_
  refine W_for (fun i e => ∃ x2 x3 x4 x5, e = [.imm (.list (L bs)), .imm (.int (Crc.crc 0 (bitsOf (bs.take i)) : Nat)), gs x2, gs x3, gs x4, gs x5]) (by walk_at "z"; rfl) ⟨none, none, none, none, rfl⟩ ?_ ?_
  · rintro i d e hi ⟨x2, x3, x4, x5, rfl⟩
    obtain ⟨n, hn, rfl⟩ := L_get.mp hi
    have hb := h n (List.mem_of_getElem? hn)
    refine ⟨_, by walk_at "z"; rfl, ?_⟩
    have hs0 : Crc.crc 0 (bitsOf (List.take i bs)) < 2 ^ 32 := Crc.crc_lt (by decide) _
    have hend : Crc.crc 0 (bitsOf (List.take (i + 1) bs)) = Crc.crc (Crc.crc 0 (bitsOf (List.take i bs))) (bitsB n.toNat) := by rw [bitsOf_take bs i n hn, Crc.crc_app]
    generalize Crc.crc 0 (bitsOf (List.take i bs)) = s0 at hs0 hend ⊢
    refine W_cons ?_
    refine W_for (fun j e => ∃ x3 x4 x5, e = [.imm (.list (L bs)), .imm (.int (Crc.crc s0 ((bitsB n.toNat).take j) : Nat)), .imm (.int n), gs x3, gs x4, gs x5]) (ds := (List.range 8).map fun j : Nat => PyData.int (7 - j)) (by walk_at "z"; rfl) ⟨_, _, _, rfl⟩ ?_ ?_
    · rintro j d e hj ⟨y3, y4, y5, rfl⟩
      rw [List.getElem?_map] at hj
      by_cases h8 : j < 8
      · rw [List.getElem?_range h8] at hj
        cases hj
        refine ⟨_, by walk_at "z"; rfl, ?_⟩
        have hm : (7 - (j : Int)) = ((7 - j : Nat) : Int) := by omega
        rw [hm]
        have hs1 : Crc.crc s0 ((bitsB n.toNat).take j) < 2 ^ 32 := Crc.crc_lt hs0 _
        have hst := take_st s0 (bitsB n.toNat) j _ (bitsB_at _ _ h8)
        generalize Crc.crc s0 ((bitsB n.toNat).take j) = s1 at hs1 hst ⊢
        refine W_next (by walk_at "z"; rfl) ?_
        refine W_next (by walk_at "z"; rfl) ?_
        refine W_next (by walk_at "z"; rfl) ?_
        refine W_cons ?_
        refine W_if (by walk_at "z"; rfl) ?_ ?_
        · intro hc
          rw [lead_op s1 hs1, Int.toNat_natCast, bit_op n hb.1] at hc
          have hx : (s1.testBit 31 != n.toNat.testBit (7 - j)) = true := by
            revert hc
            cases s1.testBit 31 <;> cases n.toNat.testBit (7 - j) <;> decide
          have hv : Builtin.bitXor ((2 * (s1 : Int)).fmod 4294967296) 79764919 = ((Crc.crc s0 (List.take (j + 1) (bitsB n.toNat)) : Nat) : Int) := by
            rw [hst, dbl_op, Bits.bitXor_pp (by omega) (by omega), Int.toNat_natCast]
            unfold Crc.st
            rw [hx]
            rfl
          refine W_next (by walk_at "z"; rfl) ?_
          rw [hv]
          exact W_nil (W_nil ⟨some _, some _, some _, rfl⟩)
        · intro hc
          rw [lead_op s1 hs1, Int.toNat_natCast, bit_op n hb.1] at hc
          have hx : (s1.testBit 31 != n.toNat.testBit (7 - j)) = false := by
            revert hc
            cases s1.testBit 31 <;> cases n.toNat.testBit (7 - j) <;> decide
          have hv : (2 * (s1 : Int)).fmod 4294967296 = ((Crc.crc s0 (List.take (j + 1) (bitsB n.toNat)) : Nat) : Int) := by
            rw [hst, dbl_op]
            unfold Crc.st
            rw [hx, if_neg Bool.false_ne_true, Nat.xor_zero]
          rw [hv]
          exact W_nil (W_nil ⟨some _, some _, some _, rfl⟩)
      · rw [List.getElem?_eq_none (by simp; omega)] at hj
        cases hj
    · rintro e ⟨y3, y4, y5, rfl⟩
      refine W_nil ⟨some (.int n), y3, y4, y5, ?_⟩
      rw [hend, List.take_of_length_le (by rw [bitsB_len]; simp)]
      rfl
  · rintro e ⟨x2, x3, x4, x5, rfl⟩
    rw [L_len, List.take_length]
    have hs : Crc.crc 0 (bitsOf bs) < 2 ^ 32 := Crc.crc_lt (by decide) _
    unfold sumB
    generalize Crc.crc 0 (bitsOf bs) = s at hs ⊢
    refine W_ret (env' := [.imm (.list (L bs)), .imm (.int (s : Nat)), gs x2, gs x3, gs x4, gs x5]) ?_ ⟨rfl, by simp only [ioOf, ioOf_gs]⟩
    have key : cComp (evE (Z.run tb.T k) e_sum_of_bits_1).e 3 (evI (Z.run tb.T k) q_sum_of_bits_1) (fun env => some (true, env)) [.imm (.list (L bs)), .imm (.int (s : Nat)), gs x2, gs x3, gs x4, gs x5] = some (.own (.lst (L (sum4 s))), [.imm (.list (L bs)), .imm (.int (s : Nat)), gs x2, gs x3, gs x4, gs x5]) := by
      refine comp_mapY (ds := L [3, 2, 1, 0]) (s := gs x3) (fun d => match d with | .int p => .int ((s / 2 ^ (8 * p.toNat) % 256 : Nat) : Int) | d => d) ?hsrc ?hs (keepS_gs _) (by decide) ?hf ?hy
      case hsrc =>
        unfold q_sum_of_bits_1
        walk_at "z"
        rfl
      case hs => rfl
      case hy => simp [L, sum4]
      intro d hd
      obtain ⟨p, hp, rfl⟩ := L_mem.mp hd
      have hp4 : 0 ≤ p ∧ p < 4 := by
        simp only [List.mem_cons, List.not_mem_nil, or_false] at hp
        omega
      have e1 : Builtin.bitAnd ((s : Int) / 2 ^ (8 * p).toNat) 255 = ((s / 2 ^ (8 * p.toNat) % 256 : Nat) : Int) := by
        rw [div_pow (s : Int) (by omega), Int.toNat_natCast, show (255 : Int) = 2 ^ 8 - 1 by decide, Bits.bitAnd_mask 8 (Int.natCast_nonneg _), show (8 * p).toNat = 8 * p.toNat by omega]
        exact (Int.natCast_emod _ _).symm
      unfold e_sum_of_bits_1
      walk_at "z"
      rw [e1]
    walk_at "z"
    rw [key]
end K48
namespace K48
open PySem PySem.Spec PyProof.Rows Z
local macro_rules | `(tactic| walk_at "z") => `(tactic| simp (disch := first | omega | assumption | decide | (apply IsP.l; assumption)) only [IFP, IFdiv, IFpow, IFT, IFtt, sh_int, sh_bool, sh_none, sh_L, Bool.and_self, Bool.true_and, Bool.and_true, flatD, List.all_cons, List.all_nil, List.length_cons, List.length_nil, decide_true, decide_false, Bool.not_false, Bool.not_true, eqv_int, eqv_L, evSs, evS, evE, evEs, evI, mE, msCons, msNil, Es.isNil, cV, cC, cGl, vOf, cOp, opD, addD, mulD, Z.intD, mulOk_l, mulOk_r, cNeg, cCmp, cmpD, ordD, cNot, cIte, cLst, cTup, cCall, cCallIO, cBi, biD, lenD, listD, tupleD, int1D, int2D, allD, sumD, intsD, boolsD, strD, cIsi, isiD, cPopv, cMe, meD, cRev, revD, sMk, seqD, cLenv, cIxv, cSlv, cIx, ixD, cSl, slD, tE, tV, tNot, truD, esCons, bCons, tCons, tsCons, pOne, iIt, iRng, iEnu, tupOf, itD, rangeD, sAsg, sAsgT, sSetix, sApp, sExt, sExpr, sRet, sRetV, sIf, rdV, rdR, ownAt, putO, put1, ioB_no, ioB_imm, ioB_own, ioB_gs, putT, putR, fz, Res.d, O.d, Slot.o,
  List.getElem?_cons_zero, List.getElem?_cons_succ, List.set_cons_zero, List.set_cons_succ, if_true, if_false, ite_true, ite_false, Bool.false_eq_true, reduceIte])
local macro_rules | `(tactic| walk_at "zs") => `(tactic| simp (disch := first | omega | assumption | decide | (apply IsP.l; assumption)) only [IFP, IFdiv, IFpow, IFT, IFtt, sh_int, sh_bool, sh_none, sh_L, Bool.and_self, Bool.true_and, Bool.and_true, flatD, List.all_cons, List.all_nil, List.length_cons, List.length_nil, decide_true, decide_false, Bool.not_false, Bool.not_true, eqv_int, eqv_L, evSs, evS, evE, evEs, evI, mE, msCons, msNil, Es.isNil, cV, cC, cGl, vOf, cOp, opD, addD, mulD, Z.intD, mulOk_l, mulOk_r, cNeg, cCmp, cmpD, ordD, cNot, cIte, cLst, cTup, cCall, cCallIO, cBi, biD, lenD, listD, tupleD, int1D, int2D, allD, sumD, intsD, boolsD, strD, cIsi, isiD, cPopv, cMe, meD, cRev, revD, sMk, seqD, cLenv, cIxv, cSlv, cIx, ixD, cSl, slD, tE, tV, tNot, truD, esCons, bCons, tCons, tsCons, pOne, iIt, iRng, iEnu, tupOf, itD, rangeD, sAsg, sAsgT, sSetix, sApp, sExt, sExpr, sRet, sRetV, sIf, rdV, rdR, ownAt, putO, put1, ioB_no, ioB_imm, ioB_own, ioB_gs, putT, putR, fz, Res.d, O.d, Slot.o,
  List.getElem?_cons_zero, List.getElem?_cons_succ, List.set_cons_zero, List.set_cons_succ, if_true, if_false, ite_true, ite_false, Bool.false_eq_true, reduceIte, *])
theorem fd (n : Int) {m : Int} (h : 0 ≤ m) : n.fdiv m = n / m := Int.fdiv_eq_ediv_of_nonneg n h
theorem fm (n : Int) {m : Int} (h : 0 ≤ m) : n.fmod m = n % m := Int.fmod_eq_emod_of_nonneg n h
def hd4 (a b : Int) (ds : List Int) : List Int := [a / 256, a % 256, b / 256, b % 256] ++ ds
def blockB (a b : Int) (ds : List Int) : List Int := hd4 a b ds ++ sumB (hd4 a b ds)
theorem sumB_len (bs : List Int) : (sumB bs).length = 4 := rfl
theorem sumB_isB (bs : List Int) : isB (sumB bs) := by
  intro b hb
  unfold sumB sum4 at hb
  simp only [List.mem_cons, List.not_mem_nil, or_false] at hb
  omega
theorem hd4_isB {a b : Int} {ds : List Int} (ha : 0 ≤ a ∧ a < 65536) (hb : 0 ≤ b ∧ b < 65536) (h : isB ds) : isB (hd4 a b ds) := by
  intro x hx
  unfold hd4 at hx
  rw [List.mem_append] at hx
  rcases hx with hx | hx
  · simp only [List.mem_cons, List.not_mem_nil, or_false] at hx
    omega
  · exact h x hx
theorem hd4_len (a b : Int) (ds : List Int) : (hd4 a b ds).length = ds.length + 4 := by
  unfold hd4
  rw [List.length_append]
  exact Nat.add_comm _ _
theorem f_block (k : Nat) (a b : Int) (ds : List Int) (ha : 0 ≤ a ∧ a < 65536) (hb : 0 ≤ b ∧ b < 65536) (h : isB ds) (hl : ds.length ≤ 5000) :
    run tb.T (k + 2) i_block none [.int a, .int b, .list (L ds)] = some (.own (.lst (L (blockB a b ds))), none) := by
  show runD (run tb.T (k + 1)) 4 b_block none [.int a, .int b, .list (L ds)] = _
  refine runD_of ?_
  show W (evSs _ b_block [.imm (.int a), .imm (.int b), .imm (.list (L ds)), .no]) _
  have hs := szl
  have hL := L_len ds
  have hL4 := L_len (hd4 a b ds)
  have h4 := hd4_len a b ds
  unfold b_block
  refine W_next (env' := [.imm (.int a), .imm (.int b), .imm (.list (L ds)), .own (.lst (L (hd4 a b ds)))]) ?_ ?_
  · have e : [PyData.int (a.fdiv 256), .int (a.fmod 256), .int (b.fdiv 256), .int (b.fmod 256)] ++ L ds = L (hd4 a b ds) := by
      rw [fd a (by decide), fm a (by decide), fd b (by decide), fm b (by decide)]
      rfl
    have e2 : [PyData.int (a.fdiv 256), .int (a.fmod 256), .int (b.fdiv 256), .int (b.fmod 256)].length = 4 := rfl
    walk_at "z"
    rw [e]
  · refine W_ret (env' := [.imm (.int a), .imm (.int b), .imm (.list (L ds)), .imm (.list (L (hd4 a b ds)))]) ?_ ⟨rfl, rfl⟩
    have e3 : (L (sumB (hd4 a b ds))).length = 4 := L_len _
    walk_at "z"
    rw [f_sum k _ (hd4_isB ha hb h)]
    walk_at "z"
    rw [L_app]
    rfl
/-! ### blocks -/
def cntN (n : Nat) : Nat := (n + 1 + 55) / 56
def dataP (bs : List Int) : List Int := bs ++ [1] ++ List.replicate (56 * cntN bs.length - (bs.length + 1)) 0
def blk (ds : List Int) (i : Nat) : List Int := (ds.drop (56 * i)).take 56
def blocksTo (bs : List Int) (i : Nat) : List Int := (List.range i).flatMap fun (j : Nat) => blockB ((j : Int) + 1) (cntN bs.length : Nat) (blk (dataP bs) j)
def blocks (bs : List Int) : List Int := blocksTo bs (cntN bs.length)
theorem cnt_ge (n : Nat) : n + 1 ≤ 56 * cntN n ∧ 56 * cntN n ≤ n + 56 ∧ 1 ≤ cntN n := by unfold cntN; omega
theorem dataP_len (bs : List Int) : (dataP bs).length = 56 * cntN bs.length := by
  have := cnt_ge bs.length
  unfold dataP
  simp
  omega
theorem dataP_isB {bs : List Int} (h : isB bs) : isB (dataP bs) := by
  intro b hb
  unfold dataP at hb
  simp only [List.mem_append, List.mem_singleton, List.mem_replicate] at hb
  rcases hb with (hb | hb) | hb
  · exact h b hb
  · omega
  · omega
theorem blk_len {bs : List Int} {i : Nat} (h : i < cntN bs.length) : (blk (dataP bs) i).length = 56 := by
  unfold blk
  rw [List.length_take, List.length_drop, dataP_len]
  omega
theorem blk_isB {ds : List Int} (h : isB ds) (i : Nat) : isB (blk ds i) := fun b hb => h b (List.mem_of_mem_drop (List.mem_of_mem_take hb))
theorem blockB_len (a b : Int) (ds : List Int) : (blockB a b ds).length = ds.length + 8 := by
  unfold blockB
  rw [List.length_append, hd4_len, sumB_len]
theorem blocksTo_len {bs : List Int} : ∀ i, i ≤ cntN bs.length → (blocksTo bs i).length = 64 * i
  | 0, _ => rfl
  | i + 1, h => by
    unfold blocksTo
    rw [List.range_succ, List.flatMap_append, List.length_append]
    have ih := blocksTo_len (bs := bs) i (by omega)
    unfold blocksTo at ih
    rw [ih]
    simp only [List.flatMap_cons, List.flatMap_nil, List.append_nil]
    rw [blockB_len, blk_len (by omega)]
    omega
theorem blocksTo_succ (bs : List Int) (i : Nat) : blocksTo bs (i + 1) = blocksTo bs i ++ blockB ((i : Int) + 1) (cntN bs.length : Nat) (blk (dataP bs) i) := by
  unfold blocksTo
  rw [List.range_succ, List.flatMap_append]
  simp
theorem f_blocks_of (k : Nat) (bs : List Int) (h : isB bs) (hl : bs.length ≤ 1000000) : run tb.T (k + 3) i_blocks_of none [.list (L bs)] = some (.own (.lst (L (blocks bs))), none) := by
  show runD (run tb.T (k + 2)) 5 b_blocks_of none [.list (L bs)] = _
  refine runD_of ?_
  show W (evSs _ b_blocks_of [.imm (.list (L bs)), .no, .no, .no, .no]) _
  have hs := szl
  have hL := L_len bs
  have hc := cnt_ge bs.length
  have hP := dataP_len bs
  have hPB := dataP_isB h
  unfold b_blocks_of
  refine W_next (env' := [.imm (.list (L bs)), .own (.lst (L (bs ++ [1]))), .no, .no, .no]) ?_ ?_
  · have e : L bs ++ [PyData.int 1] = L (bs ++ [1]) := L_app bs [1]
    have e2 : [PyData.int 1].length = 1 := rfl
    walk_at "z"
    rw [e]
  have hL1 : (L (bs ++ [1])).length = bs.length + 1 := by rw [L_len]; simp
  refine W_next (env' := [.imm (.list (L bs)), .own (.lst (L (bs ++ [1]))), .imm (.int (cntN bs.length : Nat)), .no, .no]) ?_ ?_
  · have e : -((-((L (bs ++ [1])).length : Int)).fdiv 56) = (cntN bs.length : Nat) := by
      rw [hL1, fd _ (by decide)]
      unfold cntN
      omega
    walk_at "z"
    rw [e]
  refine W_next (env' := [.imm (.list (L bs)), .own (.lst (L (dataP bs))), .imm (.int (cntN bs.length : Nat)), .no, .no]) ?_ ?_
  · have e1 : ((cntN bs.length : Nat) : Int) * 56 - ((L (bs ++ [1])).length : Int) = ((56 * cntN bs.length - (bs.length + 1) : Nat) : Int) := by
      rw [hL1]
      omega
    have e2 : (((56 * cntN bs.length - (bs.length + 1) : Nat) : Int)).toNat = 56 * cntN bs.length - (bs.length + 1) := Int.toNat_natCast _
    have e3 : L (bs ++ [1]) ++ L (List.replicate (56 * cntN bs.length - (bs.length + 1)) 0) = L (dataP bs) := L_app _ _
    have e4 : (L (List.replicate (56 * cntN bs.length - (bs.length + 1)) 0)).length = 56 * cntN bs.length - (bs.length + 1) := by rw [L_len, List.length_replicate]
    have e5 : [PyData.int 0].length = 1 := rfl
    have e7 : [PyData.int 0].length * (((56 * cntN bs.length - (bs.length + 1) : Nat) : Int)).toNat ≤ sizeLine := by rw [e2, e5]; omega
    walk_at "z"
    rw [e1]
    rw [e2, L_rep]
    walk_at "z"
    rw [e3]
  refine W_next (by walk_at "z"; rfl) ?_
  refine W_cons ?_
  refine W_for (fun i e => ∃ x4 y, e = [.imm (.list (L bs)), y, .imm (.int (cntN bs.length : Nat)), .own (.lst (L (blocksTo bs i))), gs x4] ∧ y = .own (.lst (L (dataP bs)))) (ds := (List.range (cntN bs.length)).map fun j : Nat => PyData.int j) ?_ ⟨none, _, rfl, rfl⟩ ?_ ?_
  · walk_at "z"
    rw [Int.toNat_natCast]
    rfl
  · rintro i d e hi ⟨x4, y, rfl, rfl⟩
    rw [List.getElem?_map] at hi
    by_cases h8 : i < cntN bs.length
    · rw [List.getElem?_range h8] at hi
      cases hi
      refine ⟨_, by walk_at "z"; rfl, ?_⟩
      have hb := blocksTo_len (bs := bs) i (by omega)
      unfold l_blocks_of_1
      refine W_next (env' := [.imm (.list (L bs)), .own (.lst (L (dataP bs))), .imm (.int (cntN bs.length : Nat)), .own (.lst (L (blocksTo bs (i + 1)))), .imm (.int (i : Nat))]) ?_ (W_nil ⟨some _, _, rfl, rfl⟩)
      have e1 : (i : Int) * 56 = ((56 * i : Nat) : Int) := by omega
      have e2 : ((i : Int) + 1) * 56 = ((56 * i + 56 : Nat) : Int) := by omega
      have e3 : cutD (L (dataP bs)) (some ((56 * i : Nat) : Int)) (some ((56 * i + 56 : Nat) : Int)) = L (blk (dataP bs) i) := by
        rw [cut_mid _ _ _ (by omega), show 56 * i + 56 - 56 * i = 56 by omega]
        rfl
      have e4 : (L (blocksTo bs i)).length = 64 * i := by rw [L_len, hb]
      have e5 := blk_len (bs := bs) h8
      have e6 : (L (blockB ((i : Int) + 1) (cntN bs.length : Nat) (blk (dataP bs) i))).length = 64 := by rw [L_len, blockB_len, e5]
      walk_at "z"
      rw [e1, e2, e3, f_block k _ _ _ (by omega) (by omega) (blk_isB hPB i) (by omega)]
      walk_at "z"
      rw [L_app, ← blocksTo_succ]
    · rw [List.getElem?_eq_none (by simp; omega)] at hi
      cases hi
  · rintro e ⟨x4, y, rfl, rfl⟩
    refine W_ret (by walk_at "z"; rfl) ⟨?_, by simp only [ioOf, ioOf_gs]⟩
    rw [List.length_map, List.length_range]
    rfl
end K48
namespace K48
open PySem PySem.Spec PyProof.Rows Z
local macro_rules | `(tactic| walk_at "z") => `(tactic| simp (disch := first | omega | assumption | decide | (apply IsP.l; assumption)) only [IFP, IFdiv, IFpow, IFT, IFtt, sh_int, sh_bool, sh_none, sh_L, Bool.and_self, Bool.true_and, Bool.and_true, flatD, List.all_cons, List.all_nil, List.length_cons, List.length_nil, decide_true, decide_false, Bool.not_false, Bool.not_true, eqv_int, eqv_L, evSs, evS, evE, evEs, evI, mE, msCons, msNil, Es.isNil, cV, cC, cGl, vOf, cOp, opD, addD, mulD, Z.intD, mulOk_l, mulOk_r, cNeg, cCmp, cmpD, ordD, cNot, cIte, cLst, cTup, cCall, cCallIO, cBi, biD, lenD, listD, tupleD, int1D, int2D, allD, sumD, intsD, boolsD, strD, cIsi, isiD, cPopv, cMe, meD, cRev, revD, sMk, seqD, cLenv, cIxv, cSlv, cIx, ixD, cSl, slD, tE, tV, tNot, truD, esCons, bCons, tCons, tsCons, pOne, iIt, iRng, iEnu, tupOf, itD, rangeD, sAsg, sAsgT, sSetix, sApp, sExt, sExpr, sRet, sRetV, sIf, rdV, rdR, ownAt, putO, put1, ioB_no, ioB_imm, ioB_own, ioB_gs, putT, putR, fz, Res.d, O.d, Slot.o,
  List.getElem?_cons_zero, List.getElem?_cons_succ, List.set_cons_zero, List.set_cons_succ, if_true, if_false, ite_true, ite_false, Bool.false_eq_true, reduceIte])
local macro_rules | `(tactic| walk_at "zs") => `(tactic| simp (disch := first | omega | assumption | decide | (apply IsP.l; assumption)) only [IFP, IFdiv, IFpow, IFT, IFtt, sh_int, sh_bool, sh_none, sh_L, Bool.and_self, Bool.true_and, Bool.and_true, flatD, List.all_cons, List.all_nil, List.length_cons, List.length_nil, decide_true, decide_false, Bool.not_false, Bool.not_true, eqv_int, eqv_L, evSs, evS, evE, evEs, evI, mE, msCons, msNil, Es.isNil, cV, cC, cGl, vOf, cOp, opD, addD, mulD, Z.intD, mulOk_l, mulOk_r, cNeg, cCmp, cmpD, ordD, cNot, cIte, cLst, cTup, cCall, cCallIO, cBi, biD, lenD, listD, tupleD, int1D, int2D, allD, sumD, intsD, boolsD, strD, cIsi, isiD, cPopv, cMe, meD, cRev, revD, sMk, seqD, cLenv, cIxv, cSlv, cIx, ixD, cSl, slD, tE, tV, tNot, truD, esCons, bCons, tCons, tsCons, pOne, iIt, iRng, iEnu, tupOf, itD, rangeD, sAsg, sAsgT, sSetix, sApp, sExt, sExpr, sRet, sRetV, sIf, rdV, rdR, ownAt, putO, put1, ioB_no, ioB_imm, ioB_own, ioB_gs, putT, putR, fz, Res.d, O.d, Slot.o,
  List.getElem?_cons_zero, List.getElem?_cons_succ, List.set_cons_zero, List.set_cons_succ, if_true, if_false, ite_true, ite_false, Bool.false_eq_true, reduceIte, *])
/-! ### is_block, without_end -/
def optD : Option Int → D
  | none => .none
  | some c => .int c
def many (t : List Int) : Int := 256 * t.getD 2 0 + t.getD 3 0
def isBlk (t : List Int) (num : Int) (cnt : Option Int) : Bool :=
  decide (t.length = 64) && decide (t.drop 60 = sumB (t.take 60)) && (decide (256 * t.getD 0 0 + t.getD 1 0 = num) && (decide (num ≤ many t) && (match cnt with | none => true | some c => decide (c = many t))))
theorem at_getD {t : List Int} {i : Nat} (h : i < t.length) : L2.atI (L t) (i : Int) = some (.int (t.getD i 0)) := by
  refine at_nat t i _ ?_
  rw [List.getD_eq_getElem?_getD, List.getElem?_eq_getElem h]
  rfl
theorem isB_take {t : List Int} (h : isB t) (n : Nat) : isB (t.take n) := fun b hb => h b (List.mem_of_mem_take hb)
theorem isB_drop {t : List Int} (h : isB t) (n : Nat) : isB (t.drop n) := fun b hb => h b (List.mem_of_mem_drop hb)
theorem f_is_block (k : Nat) (t : List Int) (num : Int) (cnt : Option Int) (h : isB t) : run tb.T (k + 2) i_is_block none [.list (L t), .int num, optD cnt] = some (.imm (.bool (isBlk t num cnt)), none) := by
  show runD (run tb.T (k + 1)) 4 b_is_block none [.list (L t), .int num, optD cnt] = _
  refine runD_of ?_
  show W (evSs _ b_is_block [.imm (.list (L t)), .imm (.int num), .imm (optD cnt), .no]) _
  have hs := szl
  have hL := L_len t
  have e1 : cutD (L t) (some 60) none = L (t.drop 60) := cut_from t 60
  have e2 : cutD (L t) none (some 60) = L (t.take 60) := cut_to t 60
  have e3 := f_sum k _ (isB_take h 60)
  unfold b_is_block
  by_cases hl : t.length = 64
  · have e4 : decide (((L t).length : Int) = 64) = true := by rw [hL, hl]; rfl
    have a0 : L2.atI (L t) 0 = some (.int (t.getD 0 0)) := at_getD (i := 0) (by omega)
    have a1 : L2.atI (L t) 1 = some (.int (t.getD 1 0)) := at_getD (i := 1) (by omega)
    have a2 : L2.atI (L t) 2 = some (.int (t.getD 2 0)) := at_getD (i := 2) (by omega)
    have a3 : L2.atI (L t) 3 = some (.int (t.getD 3 0)) := at_getD (i := 3) (by omega)
    by_cases hsum : t.drop 60 = sumB (t.take 60)
    · refine W_next (env' := [.imm (.list (L t)), .imm (.int num), .imm (optD cnt), .no]) ?_ ?_
      · have e6 : decide (t.drop 60 = sumB (t.take 60)) = true := decide_eq_true hsum
        clear hsum
        walk_at "zs"
        rfl
      · refine W_next (env' := [.imm (.list (L t)), .imm (.int num), .imm (optD cnt), .imm (.int (many t))]) ?_ ?_
        · clear hsum
          walk_at "zs"
          rfl
        · refine W_ret (env' := [.imm (.list (L t)), .imm (.int num), .imm (optD cnt), .imm (.int (many t))]) ?_ ⟨rfl, rfl⟩
          have hb : isBlk t num cnt = (decide (256 * t.getD 0 0 + t.getD 1 0 = num) && (decide (num ≤ many t) && (match cnt with | none => true | some c => decide (c = many t)))) := by
            unfold isBlk
            rw [decide_eq_true hl, decide_eq_true hsum]
            rfl
          rw [hb]
          clear hsum hb a2 a3 e1 e2 e3 e4
          cases h1 : decide (256 * t.getD 0 0 + t.getD 1 0 = num) with
          | false =>
            walk_at "zs"
            rfl
          | true =>
            cases h2 : decide (num ≤ many t) with
            | false =>
              walk_at "zs"
              rfl
            | true =>
              cases cnt with
              | none =>
                have q : inD .none [.none, .int (many t)] = true := rfl
                have q2 : optD none = .none := rfl
                rw [q2] at *
                walk_at "zs"
              | some c =>
                have q : inD (.int c) [.none, .int (many t)] = decide (c = many t) := by
                  unfold inD
                  simp only [List.any_cons, List.any_nil, Bool.or_false]
                  have e : PyData.eqv .none (.int c) = false := by simp [PyData.eqv]
                  rw [e, eqv_int, Bool.false_or]
                  exact decide_eq_decide.mpr eq_comm
                have q2 : optD (some c) = .int c := rfl
                rw [q2] at *
                walk_at "zs"
    · refine W_cons ?_
      refine W_if (env' := [.imm (.list (L t)), .imm (.int num), .imm (optD cnt), .no]) (k := true) ?_ ?_ (fun z => nomatch z)
      · have e6 : decide (t.drop 60 = sumB (t.take 60)) = false := decide_eq_false hsum
        clear hsum
        walk_at "zs"
        rfl
      · intro _
        refine W_ret (by walk_at "z"; rfl) ⟨?_, rfl⟩
        unfold isBlk
        rw [decide_eq_false hsum, Bool.and_false, Bool.false_and]
  · have e4 : decide (((L t).length : Int) = 64) = false := decide_eq_false (by rw [hL]; omega)
    refine W_cons ?_
    refine W_if (env' := [.imm (.list (L t)), .imm (.int num), .imm (optD cnt), .no]) (k := true) ?_ ?_ (fun z => nomatch z)
    · clear hl hL
      walk_at "zs"
      rfl
    · intro _
      refine W_ret (by walk_at "z"; rfl) ⟨?_, rfl⟩
      unfold isBlk
      rw [decide_eq_false hl, Bool.false_and, Bool.false_and]
end K48
namespace K48
open PySem PySem.Spec PyProof.Rows Z
local macro_rules | `(tactic| walk_at "z") => `(tactic| simp (disch := first | omega | assumption | decide | (apply IsP.l; assumption)) only [IFP, IFdiv, IFpow, IFT, IFtt, sh_int, sh_bool, sh_none, sh_L, Bool.and_self, Bool.true_and, Bool.and_true, flatD, List.all_cons, List.all_nil, List.length_cons, List.length_nil, decide_true, decide_false, Bool.not_false, Bool.not_true, eqv_int, eqv_L, evSs, evS, evE, evEs, evI, mE, msCons, msNil, Es.isNil, cV, cC, cGl, vOf, cOp, opD, addD, mulD, Z.intD, mulOk_l, mulOk_r, cNeg, cCmp, cmpD, ordD, cNot, cIte, cLst, cTup, cCall, cCallIO, cBi, biD, lenD, listD, tupleD, int1D, int2D, allD, sumD, intsD, boolsD, strD, cIsi, isiD, cPopv, cMe, meD, cRev, revD, sMk, seqD, cLenv, cIxv, cSlv, cIx, ixD, cSl, slD, tE, tV, tNot, truD, esCons, bCons, tCons, tsCons, pOne, iIt, iRng, iEnu, tupOf, itD, rangeD, sAsg, sAsgT, sSetix, sApp, sExt, sExpr, sRet, sRetV, sIf, rdV, rdR, ownAt, putO, put1, ioB_no, ioB_imm, ioB_own, ioB_gs, putT, putR, fz, Res.d, O.d, Slot.o,
  List.getElem?_cons_zero, List.getElem?_cons_succ, List.set_cons_zero, List.set_cons_succ, if_true, if_false, ite_true, ite_false, Bool.false_eq_true, reduceIte])
local macro_rules | `(tactic| walk_at "zs") => `(tactic| simp (disch := first | omega | assumption | decide | (apply IsP.l; assumption)) only [IFP, IFdiv, IFpow, IFT, IFtt, sh_int, sh_bool, sh_none, sh_L, Bool.and_self, Bool.true_and, Bool.and_true, flatD, List.all_cons, List.all_nil, List.length_cons, List.length_nil, decide_true, decide_false, Bool.not_false, Bool.not_true, eqv_int, eqv_L, evSs, evS, evE, evEs, evI, mE, msCons, msNil, Es.isNil, cV, cC, cGl, vOf, cOp, opD, addD, mulD, Z.intD, mulOk_l, mulOk_r, cNeg, cCmp, cmpD, ordD, cNot, cIte, cLst, cTup, cCall, cCallIO, cBi, biD, lenD, listD, tupleD, int1D, int2D, allD, sumD, intsD, boolsD, strD, cIsi, isiD, cPopv, cMe, meD, cRev, revD, sMk, seqD, cLenv, cIxv, cSlv, cIx, ixD, cSl, slD, tE, tV, tNot, truD, esCons, bCons, tCons, tsCons, pOne, iIt, iRng, iEnu, tupOf, itD, rangeD, sAsg, sAsgT, sSetix, sApp, sExt, sExpr, sRet, sRetV, sIf, rdV, rdR, ownAt, putO, put1, ioB_no, ioB_imm, ioB_own, ioB_gs, putT, putR, fz, Res.d, O.d, Slot.o,
  List.getElem?_cons_zero, List.getElem?_cons_succ, List.set_cons_zero, List.set_cons_succ, if_true, if_false, ite_true, ite_false, Bool.false_eq_true, reduceIte, *])
/-! ### without_end -/
theorem f_without_end (k : Nat) (l : List Int) (z : Nat) : run tb.T (k + 1) i_without_end none [.list (L (l ++ 1 :: List.replicate z 0))] = some (.own (.lst (L l)), none) := by
  show runD (run tb.T k) 2 b_without_end none [_] = _
  refine runD_of ?_
  have hlen : (L (l ++ 1 :: List.replicate z 0)).length = l.length + z + 1 := by rw [L_len]; simp; omega
  have g1 : L2.atI (L (l ++ 1 :: List.replicate z 0)) ((l.length + 0 : Nat) : Int) = some (.int 1) := at_nat _ _ _ (by simp)
  have g0 : ∀ m, m < z → L2.atI (L (l ++ 1 :: List.replicate z 0)) ((l.length + (m + 1) : Nat) : Int) = some (.int 0) := fun m hm => at_nat _ _ _ (by
    rw [List.getElem?_append_right (by omega), show l.length + (m + 1) - l.length = m + 1 by omega, List.getElem?_cons_succ, List.getElem?_replicate, if_pos hm])
  have hcut : cutD (L (l ++ 1 :: List.replicate z 0)) none (some ((l.length + 0 : Nat) : Int)) = L l := by
    rw [cut_to, Nat.add_zero, List.take_left']
    rfl
  generalize L (l ++ 1 :: List.replicate z 0) = xs at hlen g1 g0 hcut
  show W (evSs _ b_without_end [.imm (.list xs), .no]) _
  unfold b_without_end
  refine W_next (env' := [.imm (.list xs), .imm (.int ((l.length + z : Nat) : Int))]) ?_ ?_
  · have e : (xs.length : Int) - 1 = ((l.length + z : Nat) : Int) := by omega
    walk_at "z"
    rw [e]
  refine W_cons ?_
  refine W_while (fun m e => e = [.imm (.list xs), .imm (.int ((l.length + m : Nat) : Int))] ∧ m ≤ z) z ⟨rfl, Nat.le_refl _⟩ ?_
  rintro m e ⟨rfl, hm⟩
  have d0 : decide ((0 : Int) ≤ ((l.length + m : Nat) : Int)) = true := decide_eq_true (by omega)
  cases m with
  | zero =>
    have d1 : decide ((1 : Int) = 0) = false := rfl
    have d2 : decide ((1 : Int) = 1) = true := rfl
    refine W.eq (a := false) (e := [.imm (.list xs), .imm (.int ((l.length + 0 : Nat) : Int))]) (by walk_at "zs") ?_
    refine W_ret (env' := [.imm (.list xs), .imm (.int ((l.length + 0 : Nat) : Int))]) ?_ ⟨rfl, rfl⟩
    walk_at "zs"
  | succ m =>
    have g := g0 m (by omega)
    have d1 : decide ((0 : Int) = 0) = true := rfl
    refine W.eq (a := true) (e := [.imm (.list xs), .imm (.int ((l.length + (m + 1) : Nat) : Int))]) (by walk_at "zs") ?_
    refine W_next (env' := [.imm (.list xs), .imm (.int ((l.length + m : Nat) : Int))]) ?_ (W_nil ⟨m, by omega, rfl, by omega⟩)
    have e : ((l.length + (m + 1) : Nat) : Int) - 1 = ((l.length + m : Nat) : Int) := by omega
    walk_at "z"
    rw [e]
theorem f_without_none (k : Nat) (z : Nat) : run tb.T (k + 1) i_without_end none [.list (L (List.replicate z 0))] = some (.imm .none, none) := by
  show runD (run tb.T k) 2 b_without_end none [_] = _
  refine runD_of ?_
  have hlen : (L (List.replicate z 0)).length = z := by rw [L_len]; simp
  have g0 : ∀ m : Nat, m < z → L2.atI (L (List.replicate z 0)) ((m : Nat) : Int) = some (.int 0) := fun m hm => at_nat _ _ _ (by
    rw [List.getElem?_replicate, if_pos hm])
  generalize L (List.replicate z 0) = xs at hlen g0
  show W (evSs _ b_without_end [.imm (.list xs), .no]) _
  unfold b_without_end
  refine W_next (env' := [.imm (.list xs), .imm (.int ((z : Int) - 1))]) ?_ ?_
  · walk_at "z"
    rw [hlen]
  refine W_cons ?_
  refine W_while (fun m e => e = [.imm (.list xs), .imm (.int ((m : Int) - 1))] ∧ m ≤ z) z ⟨rfl, Nat.le_refl _⟩ ?_
  rintro m e ⟨rfl, hm⟩
  cases m with
  | zero =>
    have d0 : decide ((0 : Int) ≤ ((0 : Nat) : Int) - 1) = false := rfl
    refine W.eq (a := false) (e := [.imm (.list xs), .imm (.int (((0 : Nat) : Int) - 1))]) (by walk_at "zs") ?_
    refine W_ret (env' := [.imm (.list xs), .imm (.int (((0 : Nat) : Int) - 1))]) ?_ ⟨rfl, rfl⟩
    walk_at "zs"
  | succ m =>
    have g := g0 m (by omega)
    have e : ((m + 1 : Nat) : Int) - 1 = ((m : Nat) : Int) := by omega
    rw [e]
    have d0 : decide ((0 : Int) ≤ ((m : Nat) : Int)) = true := decide_eq_true (by omega)
    have d1 : decide ((0 : Int) = 0) = true := rfl
    refine W.eq (a := true) (e := [.imm (.list xs), .imm (.int ((m : Nat) : Int))]) (by walk_at "zs") ?_
    refine W_next (env' := [.imm (.list xs), .imm (.int ((m : Int) - 1))]) (by walk_at "z") (W_nil ⟨m, by omega, rfl, by omega⟩)
end K48
namespace K48
open PySem PySem.Spec PyProof.Rows Z
local macro_rules | `(tactic| walk_at "z") => `(tactic| simp (disch := first | omega | assumption | decide | (apply IsP.l; assumption)) only [IFP, IFdiv, IFpow, IFT, IFtt, sh_int, sh_bool, sh_none, sh_L, Bool.and_self, Bool.true_and, Bool.and_true, flatD, List.all_cons, List.all_nil, List.length_cons, List.length_nil, decide_true, decide_false, Bool.not_false, Bool.not_true, eqv_int, eqv_L, evSs, evS, evE, evEs, evI, mE, msCons, msNil, Es.isNil, cV, cC, cGl, vOf, cOp, opD, addD, mulD, Z.intD, mulOk_l, mulOk_r, cNeg, cCmp, cmpD, ordD, cNot, cIte, cLst, cTup, cCall, cCallIO, cBi, biD, lenD, listD, tupleD, int1D, int2D, allD, sumD, intsD, boolsD, strD, cIsi, isiD, cPopv, cMe, meD, cRev, revD, sMk, seqD, cLenv, cIxv, cSlv, cIx, ixD, cSl, slD, tE, tV, tNot, truD, esCons, bCons, tCons, tsCons, pOne, iIt, iRng, iEnu, tupOf, itD, rangeD, sAsg, sAsgT, sSetix, sApp, sExt, sExpr, sRet, sRetV, sIf, rdV, rdR, ownAt, putO, put1, ioB_no, ioB_imm, ioB_own, ioB_gs, putT, putR, fz, Res.d, O.d, Slot.o,
  List.getElem?_cons_zero, List.getElem?_cons_succ, List.set_cons_zero, List.set_cons_succ, if_true, if_false, ite_true, ite_false, Bool.false_eq_true, reduceIte])
local macro_rules | `(tactic| walk_at "zs") => `(tactic| simp (disch := first | omega | assumption | decide | (apply IsP.l; assumption)) only [IFP, IFdiv, IFpow, IFT, IFtt, sh_int, sh_bool, sh_none, sh_L, Bool.and_self, Bool.true_and, Bool.and_true, flatD, List.all_cons, List.all_nil, List.length_cons, List.length_nil, decide_true, decide_false, Bool.not_false, Bool.not_true, eqv_int, eqv_L, evSs, evS, evE, evEs, evI, mE, msCons, msNil, Es.isNil, cV, cC, cGl, vOf, cOp, opD, addD, mulD, Z.intD, mulOk_l, mulOk_r, cNeg, cCmp, cmpD, ordD, cNot, cIte, cLst, cTup, cCall, cCallIO, cBi, biD, lenD, listD, tupleD, int1D, int2D, allD, sumD, intsD, boolsD, strD, cIsi, isiD, cPopv, cMe, meD, cRev, revD, sMk, seqD, cLenv, cIxv, cSlv, cIx, ixD, cSl, slD, tE, tV, tNot, truD, esCons, bCons, tCons, tsCons, pOne, iIt, iRng, iEnu, tupOf, itD, rangeD, sAsg, sAsgT, sSetix, sApp, sExt, sExpr, sRet, sRetV, sIf, rdV, rdR, ownAt, putO, put1, ioB_no, ioB_imm, ioB_own, ioB_gs, putT, putR, fz, Res.d, O.d, Slot.o,
  List.getElem?_cons_zero, List.getElem?_cons_succ, List.set_cons_zero, List.set_cons_succ, if_true, if_false, ite_true, ite_false, Bool.false_eq_true, reduceIte, *])
/-! ### data_of -/
def cntL (l : List Int) : Nat := l.length
def piece (w : List Int) (i : Nat) : List Int := (w.drop (64 * i)).take 64
/-- the first m blocks of w are right ones of c blocks -/
def Right (w : List Int) (c m : Nat) : Prop := ∀ i, i < m → (isBlk (piece w i) ((i : Int) + 1) (if i = 0 then none else some (c : Int)) = true ∧ many (piece w i) = (c : Int))
def datas (w : List Int) (m : Nat) : List Int := (List.range m).flatMap fun i => ((piece w i).drop 4).take 56
theorem datas_succ (w : List Int) (m : Nat) : datas w (m + 1) = datas w m ++ ((piece w m).drop 4).take 56 := by
  unfold datas
  rw [List.range_succ, List.flatMap_append]
  simp
theorem piece_isB {w : List Int} (h : isB w) (i : Nat) : isB (piece w i) := isB_take (isB_drop h _) _
theorem isBlk_len {t : List Int} {n : Int} {c : Option Int} (h : isBlk t n c = true) : t.length = 64 := by
  unfold isBlk at h
  simp only [Bool.and_eq_true, decide_eq_true_eq] at h
  exact h.1.1
theorem datas_len {w : List Int} {c : Nat} : ∀ m, Right w c m → (datas w m).length = 56 * m
  | 0, _ => rfl
  | m + 1, h => by
    rw [datas_succ, List.length_append, datas_len m fun i hi => h i (by omega), List.length_take, List.length_drop, isBlk_len (h m (by omega)).1]
    omega
def envD (w : List Int) (c m : Nat) (x4 x5 : Option D) : Z.Env := [.imm (.list (L w)), .own (.lst (L (datas w m))), .imm (if m = 0 then .none else .int (c : Int)), .imm (.int (m : Int)), gs x4, gs x5]
/-- the blocks read while they are right -/
theorem data_turn (k : Nat) (w : List Int) (c m : Nat) (h : isB w) (hR : Right w c (m + 1)) (hm : m < c) (hc : c ≤ 100) (x4 x5 : Option D) (Φ : Fl → Z.Env → Prop) (hk : ∀ x5, Φ .next (envD w c (m + 1) x4 x5)) :
    W (evSs (run tb.T (k + 3)) l_data_of_1 (envD w c m x4 x5)) Φ := by
  have hb := f_is_block (k + 1) (piece w m) ((m : Int) + 1) (if m = 0 then none else some (c : Int)) (piece_isB h m)
  rw [(hR m (by omega)).1] at hb
  have hmany := (hR m (by omega)).2
  have hlen := isBlk_len (hR m (by omega)).1
  have hd : optD (if m = 0 then none else some (c : Int)) = (if m = 0 then .none else .int (c : Int)) := by
    split <;> rfl
  rw [hd] at hb
  have hs := szl
  have hdl := datas_len m (fun i hi => hR i (by omega))
  have e1 : (64 : Int) * (m : Int) = ((64 * m : Nat) : Int) := by omega
  have e2 : (64 : Int) * ((m : Int) + 1) = ((64 * m + 64 : Nat) : Int) := by omega
  have e3 : cutD (L w) (some ((64 * m : Nat) : Int)) (some ((64 * m + 64 : Nat) : Int)) = L (piece w m) := by
    rw [cut_mid _ _ _ (by omega), show 64 * m + 64 - 64 * m = 64 by omega]
    rfl
  have a2 : L2.atI (L (piece w m)) 2 = some (.int ((piece w m).getD 2 0)) := at_getD (i := 2) (by omega)
  have a3 : L2.atI (L (piece w m)) 3 = some (.int ((piece w m).getD 3 0)) := at_getD (i := 3) (by omega)
  have hcut : cutD (L (piece w m)) (some 4) (some 60) = L (((piece w m).drop 4).take 56) := cut_mid _ 4 60 (by omega)
  have hsucc := datas_succ w m
  have hL1 : (L (datas w m)).length = 56 * m := by rw [L_len, hdl]
  have hL2 : (L (((piece w m).drop 4).take 56)).length = 56 := by rw [L_len, List.length_take, List.length_drop, hlen]; rfl
  unfold many at hmany
  unfold envD
  generalize hcd : (if m = 0 then PyData.none else .int (c : Int)) = cd at hb
  have hcd2 : (if m + 1 = 0 then PyData.none else .int (c : Int)) = .int (c : Int) := if_neg (by omega)
  unfold envD at hk
  rw [hcd2, hsucc] at hk
  generalize piece w m = p at *
  generalize datas w m = dd at *
  unfold l_data_of_1
  clear hR h
  refine W_next (env' := [.imm (.list (L w)), .own (.lst (L dd)), .imm cd, .imm (.int (m : Int)), gs x4, .own (.lst (L p))]) ?_ ?_
  · walk_at "z"
    rw [e1, e2, e3]
  refine W_next (env' := [.imm (.list (L w)), .own (.lst (L dd)), .imm cd, .imm (.int ((m : Int) + 1)), gs x4, .own (.lst (L p))]) (by walk_at "z") ?_
  refine W_cons (W_if (k := false) (env' := [.imm (.list (L w)), .own (.lst (L dd)), .imm cd, .imm (.int ((m : Int) + 1)), gs x4, .imm (.list (L p))]) ?_ (fun z => nomatch z) (fun _ => W_nil ?_))
  · walk_at "z"
    rw [hb]
    walk_at "z"
  refine W_next (env' := [.imm (.list (L w)), .own (.lst (L dd)), .imm (.int (c : Int)), .imm (.int ((m : Int) + 1)), gs x4, .imm (.list (L p))]) ?_ ?_
  · rw [← hmany]
    clear hmany
    walk_at "zs"
  have hk' := hk (some (.list (L p)))
  rw [show ((m + 1 : Nat) : Int) = (m : Int) + 1 by omega] at hk'
  refine W_next (env' := [.imm (.list (L w)), .own (.lst (L (dd ++ (p.drop 4).take 56))), .imm (.int (c : Int)), .imm (.int ((m : Int) + 1)), gs x4, .imm (.list (L p))]) ?_ (W_nil hk')
  walk_at "z"
  rw [hcut]
  walk_at "z"
  rw [L_app]
/-- .. and one that is not -/
theorem data_stop (k : Nat) (w : List Int) (c m : Nat) (h : isB w) (hR : isBlk (piece w m) ((m : Int) + 1) (if m = 0 then none else some (c : Int)) = false) (x4 x5 : Option D) (Φ : Fl → Z.Env → Prop)
    (hk : ∀ cd p, Φ (.ret (.imm (.tuple [.str "block", .int ((m : Int) + 1)]))) [.imm (.list (L w)), .own (.lst (L (datas w m))), .imm cd, .imm (.int ((m : Int) + 1)), gs x4, .imm (.list (L p))]) :
    W (evSs (run tb.T (k + 3)) l_data_of_1 (envD w c m x4 x5)) Φ := by
  have hb := f_is_block (k + 1) (piece w m) ((m : Int) + 1) (if m = 0 then none else some (c : Int)) (piece_isB h m)
  rw [hR] at hb
  have hd : optD (if m = 0 then none else some (c : Int)) = (if m = 0 then .none else .int (c : Int)) := by
    split <;> rfl
  rw [hd] at hb
  have hs := szl
  have e1 : (64 : Int) * (m : Int) = ((64 * m : Nat) : Int) := by omega
  have e2 : (64 : Int) * ((m : Int) + 1) = ((64 * m + 64 : Nat) : Int) := by omega
  have e3 : cutD (L w) (some ((64 * m : Nat) : Int)) (some ((64 * m + 64 : Nat) : Int)) = L (piece w m) := by
    rw [cut_mid _ _ _ (by omega), show 64 * m + 64 - 64 * m = 64 by omega]
    rfl
  unfold envD
  generalize hcd : (if m = 0 then PyData.none else .int (c : Int)) = cd at hb
  generalize piece w m = p at *
  generalize datas w m = dd at *
  unfold l_data_of_1
  clear hR h
  refine W_next (env' := [.imm (.list (L w)), .own (.lst (L dd)), .imm cd, .imm (.int (m : Int)), gs x4, .own (.lst (L p))]) ?_ ?_
  · walk_at "z"
    rw [e1, e2, e3]
  refine W_next (env' := [.imm (.list (L w)), .own (.lst (L dd)), .imm cd, .imm (.int ((m : Int) + 1)), gs x4, .own (.lst (L p))]) (by walk_at "z") ?_
  refine W_cons (W_if (k := true) (env' := [.imm (.list (L w)), .own (.lst (L dd)), .imm cd, .imm (.int ((m : Int) + 1)), gs x4, .imm (.list (L p))]) ?_ (fun _ => ?_) (fun z => nomatch z))
  · walk_at "z"
    rw [hb]
    walk_at "z"
  refine W_ret (env' := [.imm (.list (L w)), .own (.lst (L dd)), .imm cd, .imm (.int ((m : Int) + 1)), gs x4, .imm (.list (L p))]) ?_ (hk cd p)
  walk_at "z"
theorem data_cond (k : Nat) (w : List Int) (c m : Nat) (hc : 0 < c) (x4 x5 : Option D) : (evE (run tb.T (k + 3)) (.bop false (.cons (.cmp .is (.v 2) .non) (.cons (.cmp .lt (.v 3) (.v 2)) .nil)))).t (envD w c m x4 x5) = some (decide (m < c), envD w c m x4 x5) := by
  unfold envD
  cases m with
  | zero =>
    rw [if_pos rfl, decide_eq_true hc]
    walk_at "z"
    rfl
  | succ m =>
    rw [if_neg (by omega)]
    have e : decide (((m + 1 : Nat) : Int) < (c : Int)) = decide (m + 1 < c) := decide_eq_decide.mpr (by omega)
    walk_at "z"
    rw [e]
theorem data_loop (k : Nat) (w : List Int) (c : Nat) (h : isB w) (hc : 0 < c ∧ c ≤ 100) (hR : Right w c c) (Φ : Fl → Z.Env → Prop) (hk : ∀ x5, Φ .next (envD w c c none x5)) :
    W (evS (run tb.T (k + 3)) (.while_ (.bop false (.cons (.cmp .is (.v 2) .non) (.cons (.cmp .lt (.v 3) (.v 2)) .nil))) l_data_of_1) (envD w c 0 none none)) Φ := by
  refine W_while (fun n e => ∃ i x5, e = envD w c i none x5 ∧ n = c - i ∧ i ≤ c) c ⟨0, none, rfl, rfl, by omega⟩ ?_
  rintro n e ⟨i, x5, rfl, rfl, hi⟩
  refine W.eq (data_cond k w c i hc.1 none x5) ?_
  by_cases h1 : i < c
  · rw [decide_eq_true h1]
    exact data_turn k w c i h (fun j hj => hR j (by omega)) h1 hc.2 none x5 _ fun y => ⟨c - (i + 1), by omega, i + 1, y, rfl, rfl, by omega⟩
  · rw [decide_eq_false h1]
    have : i = c := by omega
    subst this
    exact hk x5
theorem data_block (k : Nat) (w : List Int) (c m : Nat) (h : isB w) (hc : m < c ∧ c ≤ 100) (hR : Right w c m) (hbad : isBlk (piece w m) ((m : Int) + 1) (if m = 0 then none else some (c : Int)) = false) :
    run tb.T (k + 4) i_data_of none [.list (L w)] = some (.imm (.tuple [.str "block", .int ((m : Int) + 1)]), none) := by
  show runD (run tb.T (k + 3)) 6 b_data_of none [_] = _
  refine runD_of ?_
  show W (evSs _ b_data_of [.imm (.list (L w)), .no, .no, .no, .no, .no]) _
  unfold b_data_of
  refine W_next (env' := [.imm (.list (L w)), .own (.lst []), .no, .no, .no, .no]) (by have hs := szl; walk_at "z") ?_
  refine W_next (env' := [.imm (.list (L w)), .own (.lst []), .imm .none, .no, .no, .no]) (by walk_at "z") ?_
  refine W_next (env' := envD w c 0 none none) (by walk_at "z" <;> rfl) ?_
  refine W_cons ?_
  refine W_while (fun n e => ∃ i x5, e = envD w c i none x5 ∧ n = m - i ∧ i ≤ m) m ⟨0, none, rfl, rfl, by omega⟩ ?_
  rintro n e ⟨i, x5, rfl, rfl, hi⟩
  refine W.eq (data_cond k w c i (by omega) none x5) ?_
  rw [decide_eq_true (by omega)]
  by_cases h1 : i < m
  · exact data_turn k w c i h (fun j hj => hR j (by omega)) (by omega) hc.2 none x5 _ fun y => ⟨m - (i + 1), by omega, i + 1, y, rfl, rfl, by omega⟩
  · have : i = m := by omega
    subst this
    exact data_stop k w c i h hbad none x5 _ fun cd p => ⟨rfl, rfl⟩
theorem data_some (k : Nat) (w bs : List Int) (h : isB w) (hl : bs.length ≤ 5000) (hR : Right w (cntN bs.length) (cntN bs.length)) (hd : datas w (cntN bs.length) = dataP bs) :
    run tb.T (k + 4) i_data_of none [.list (L w)] = some (.imm (.tuple (if 64 * cntN bs.length < w.length then [.str "block", .int ((cntN bs.length : Int) + 1)] else [.str "data", .list (L bs)])), none) := by
  show runD (run tb.T (k + 3)) 6 b_data_of none [_] = _
  refine runD_of ?_
  show W (evSs _ b_data_of [.imm (.list (L w)), .no, .no, .no, .no, .no]) _
  have hcg := cnt_ge bs.length
  have hs := szl
  unfold b_data_of
  refine W_next (env' := [.imm (.list (L w)), .own (.lst []), .no, .no, .no, .no]) (by walk_at "z") ?_
  refine W_next (env' := [.imm (.list (L w)), .own (.lst []), .imm .none, .no, .no, .no]) (by walk_at "z") ?_
  refine W_next (env' := envD w (cntN bs.length) 0 none none) (by walk_at "z" <;> rfl) ?_
  refine W_cons (data_loop k w (cntN bs.length) h ⟨by omega, by unfold cntN; omega⟩ hR _ fun x5 => ?_)
  show W (evSs _ _ (envD w (cntN bs.length) (cntN bs.length) none x5)) _
  unfold envD
  rw [if_neg (by omega), hd]
  have hPl := dataP_len bs
  have hLP : (L (dataP bs)).length = 56 * cntN bs.length := by rw [L_len, hPl]
  have hcut1 : cutD (L (dataP bs)) (some (-56)) none = L (bs.drop (56 * (cntN bs.length - 1)) ++ 1 :: List.replicate (56 * cntN bs.length - (bs.length + 1)) 0) := by
    refine (cut_last (dataP bs) 56 (by decide)).trans ?_
    congr 1
    rw [hPl, show 56 * cntN bs.length - 56 = 56 * (cntN bs.length - 1) by omega]
    unfold dataP
    rw [List.append_assoc, List.drop_append_of_le_length (by omega)]
    rfl
  have hcut2 : cutD (L (dataP bs)) none (some (-56)) = L (bs.take (56 * (cntN bs.length - 1))) := by
    refine (cut_init (dataP bs) 56 (by decide)).trans ?_
    congr 1
    rw [hPl, show 56 * cntN bs.length - 56 = 56 * (cntN bs.length - 1) by omega]
    unfold dataP
    rw [List.append_assoc, List.take_append_of_le_length (by omega)]
  have hwe := f_without_end (k + 2) (bs.drop (56 * (cntN bs.length - 1))) (56 * cntN bs.length - (bs.length + 1))
  rw [← hcut1] at hwe
  have hjoin : L (bs.take (56 * (cntN bs.length - 1))) ++ L (bs.drop (56 * (cntN bs.length - 1))) = L bs := by rw [L_app, List.take_append_drop]
  have hl1 : (L (bs.take (56 * (cntN bs.length - 1)))).length ≤ 5000 := by rw [L_len, List.length_take]; omega
  have hl2 : (L (bs.drop (56 * (cntN bs.length - 1)))).length ≤ 5000 := by rw [L_len, List.length_drop]; omega
  have hif : decide (64 * (cntN bs.length : Int) < ((L w).length : Int)) = decide (64 * cntN bs.length < w.length) := by
    rw [L_len]
    exact decide_eq_decide.mpr (by omega)
  generalize bs.drop (56 * (cntN bs.length - 1)) = l at hwe hjoin hl2
  generalize bs.take (56 * (cntN bs.length - 1)) = l0 at hcut2 hjoin hl1
  generalize hcc : cntN bs.length = c at *
  generalize hdd : dataP bs = dd at *
  generalize hww : (if 64 * c < w.length then [PyData.str "block", .int ((c : Int) + 1)] else [.str "data", .list (L bs)]) = res
  refine W_next (env' := [.imm (.list (L w)), .own (.lst (L dd)), .imm (.int (c : Int)), .imm (.int (c : Int)), .own (.lst (L l)), gs x5]) ?_ ?_
  · walk_at "z"
    rw [hwe]
    walk_at "z"
  refine W_cons (W_if (k := false) (env' := [.imm (.list (L w)), .own (.lst (L dd)), .imm (.int (c : Int)), .imm (.int (c : Int)), .imm (.list (L l)), gs x5]) ?_ (fun z => nomatch z) (fun _ => W_nil ?_))
  · walk_at "z" <;> rfl
  refine W_cons (W_if (k := decide (64 * c < w.length)) (env' := [.imm (.list (L w)), .own (.lst (L dd)), .imm (.int (c : Int)), .imm (.int (c : Int)), .imm (.list (L l)), gs x5]) ?_ (fun hz => ?_) (fun hz => W_nil ?_))
  · walk_at "z"
    rw [hif]
  · rw [if_pos (of_decide_eq_true hz)] at hww
    subst hww
    refine W_ret (env' := [.imm (.list (L w)), .own (.lst (L dd)), .imm (.int (c : Int)), .imm (.int (c : Int)), .imm (.list (L l)), gs x5]) ?_ ⟨rfl, by simp only [ioOf, ioOf_gs]⟩
    walk_at "z"
  · rw [if_neg (of_decide_eq_false hz)] at hww
    subst hww
    refine W_ret (env' := [.imm (.list (L w)), .own (.lst (L dd)), .imm (.int (c : Int)), .imm (.int (c : Int)), .imm (.list (L l)), gs x5]) ?_ ⟨rfl, by simp only [ioOf, ioOf_gs]⟩
    walk_at "z"
    rw [hcut2]
    walk_at "z"
    rw [hjoin]
theorem data_none (k : Nat) (w : List Int) (h : isB w) (hR : Right w 1 1) (hd : datas w 1 = List.replicate 56 0) :
    run tb.T (k + 4) i_data_of none [.list (L w)] = some (.imm (.tuple [.str "block", .int 1]), none) := by
  show runD (run tb.T (k + 3)) 6 b_data_of none [_] = _
  refine runD_of ?_
  show W (evSs _ b_data_of [.imm (.list (L w)), .no, .no, .no, .no, .no]) _
  have hs := szl
  unfold b_data_of
  refine W_next (env' := [.imm (.list (L w)), .own (.lst []), .no, .no, .no, .no]) (by walk_at "z") ?_
  refine W_next (env' := [.imm (.list (L w)), .own (.lst []), .imm .none, .no, .no, .no]) (by walk_at "z") ?_
  refine W_next (env' := envD w 1 0 none none) (by walk_at "z" <;> rfl) ?_
  refine W_cons (data_loop k w 1 h ⟨by omega, by omega⟩ hR _ fun x5 => ?_)
  show W (evSs _ _ (envD w 1 1 none x5)) _
  unfold envD
  rw [if_neg (by omega), hd]
  have hcut1 : cutD (L (List.replicate 56 0)) (some (-56)) none = L (List.replicate 56 0) := (cut_last (List.replicate 56 0) 56 (by decide)).trans rfl
  have hwe := f_without_none (k + 2) 56
  refine W_next (env' := [.imm (.list (L w)), .own (.lst (L (List.replicate 56 0))), .imm (.int ((1 : Nat) : Int)), .imm (.int ((1 : Nat) : Int)), .imm .none, gs x5]) ?_ ?_
  · walk_at "z"
    rw [hcut1, hwe]
    walk_at "z"
  refine W_cons (W_if (k := true) (env' := [.imm (.list (L w)), .own (.lst (L (List.replicate 56 0))), .imm (.int ((1 : Nat) : Int)), .imm (.int ((1 : Nat) : Int)), .imm .none, gs x5]) ?_ (fun _ => ?_) (fun z => nomatch z))
  · walk_at "z" <;> rfl
  refine W_ret (env' := [.imm (.list (L w)), .own (.lst (L (List.replicate 56 0))), .imm (.int ((1 : Nat) : Int)), .imm (.int ((1 : Nat) : Int)), .imm .none, gs x5]) ?_ ⟨rfl, by simp only [ioOf, ioOf_gs]⟩
  walk_at "z" <;> rfl
end K48
namespace K48
open PySem PySem.Spec PyProof.Rows Z
local macro_rules | `(tactic| walk_at "z") => `(tactic| simp (disch := first | omega | assumption | decide | (apply IsP.l; assumption)) only [IFP, IFdiv, IFpow, IFT, IFtt, sh_int, sh_bool, sh_none, sh_L, Bool.and_self, Bool.true_and, Bool.and_true, flatD, List.all_cons, List.all_nil, List.length_cons, List.length_nil, decide_true, decide_false, Bool.not_false, Bool.not_true, eqv_int, eqv_L, evSs, evS, evE, evEs, evI, mE, msCons, msNil, Es.isNil, cV, cC, cGl, vOf, cOp, opD, addD, mulD, Z.intD, mulOk_l, mulOk_r, cNeg, cCmp, cmpD, ordD, cNot, cIte, cLst, cTup, cCall, cCallIO, cBi, biD, lenD, listD, tupleD, int1D, int2D, allD, sumD, intsD, boolsD, strD, cIsi, isiD, cPopv, cMe, meD, cRev, revD, sMk, seqD, cLenv, cIxv, cSlv, cIx, ixD, cSl, slD, tE, tV, tNot, truD, esCons, bCons, tCons, tsCons, pOne, iIt, iRng, iEnu, tupOf, itD, rangeD, sAsg, sAsgT, sSetix, sApp, sExt, sExpr, sRet, sRetV, sIf, rdV, rdR, ownAt, putO, put1, ioB_no, ioB_imm, ioB_own, ioB_gs, putT, putR, fz, Res.d, O.d, Slot.o,
  List.getElem?_cons_zero, List.getElem?_cons_succ, List.set_cons_zero, List.set_cons_succ, if_true, if_false, ite_true, ite_false, Bool.false_eq_true, reduceIte])
local macro_rules | `(tactic| walk_at "zs") => `(tactic| simp (disch := first | omega | assumption | decide | (apply IsP.l; assumption)) only [IFP, IFdiv, IFpow, IFT, IFtt, sh_int, sh_bool, sh_none, sh_L, Bool.and_self, Bool.true_and, Bool.and_true, flatD, List.all_cons, List.all_nil, List.length_cons, List.length_nil, decide_true, decide_false, Bool.not_false, Bool.not_true, eqv_int, eqv_L, evSs, evS, evE, evEs, evI, mE, msCons, msNil, Es.isNil, cV, cC, cGl, vOf, cOp, opD, addD, mulD, Z.intD, mulOk_l, mulOk_r, cNeg, cCmp, cmpD, ordD, cNot, cIte, cLst, cTup, cCall, cCallIO, cBi, biD, lenD, listD, tupleD, int1D, int2D, allD, sumD, intsD, boolsD, strD, cIsi, isiD, cPopv, cMe, meD, cRev, revD, sMk, seqD, cLenv, cIxv, cSlv, cIx, ixD, cSl, slD, tE, tV, tNot, truD, esCons, bCons, tCons, tsCons, pOne, iIt, iRng, iEnu, tupOf, itD, rangeD, sAsg, sAsgT, sSetix, sApp, sExt, sExpr, sRet, sRetV, sIf, rdV, rdR, ownAt, putO, put1, ioB_no, ioB_imm, ioB_own, ioB_gs, putT, putR, fz, Res.d, O.d, Slot.o,
  List.getElem?_cons_zero, List.getElem?_cons_succ, List.set_cons_zero, List.set_cons_succ, if_true, if_false, ite_true, ite_false, Bool.false_eq_true, reduceIte, *])
/-! ### the pool of draws -/
theorem mulOk_big {i j : Int} (h : (-1606938044258990275541962092341162602522202993782792835301376 < i ∧ i < 1606938044258990275541962092341162602522202993782792835301376) ∧ (-1606938044258990275541962092341162602522202993782792835301376 < j ∧ j < 1606938044258990275541962092341162602522202993782792835301376)) : mulOk i j = true := by
  have key : ∀ n : Int, (-1606938044258990275541962092341162602522202993782792835301376 < n ∧ n < 1606938044258990275541962092341162602522202993782792835301376) → n.natAbs.log2 < 200 := by
    intro n hn
    by_cases h0 : n.natAbs = 0
    · rw [h0]
      decide
    · rw [Nat.log2_lt h0]
      omega
  have a := key i h.1
  have b := key j h.2
  unfold mulOk
  rw [Bool.or_eq_true]
  exact Or.inr (decide_eq_true (by omega))
theorem fm_pos (n : Int) {m : Int} (h : 0 < m) : 0 ≤ n.fmod m ∧ n.fmod m < m := ⟨Int.fmod_nonneg_of_pos n h, Int.fmod_lt_of_pos n h⟩
theorem f_mixed (k : Nat) (a b : Int) : ∃ v, run tb.T (k + 1) i_law_mixed none [.int a, .int b] = some (.imm (.int v), none) := by
  have key : ∃ r o', runD (run tb.T k) 5 b_law_mixed none [.int a, .int b] = some (r, o') ∧ ((∃ v, r = .imm (.int v)) ∧ o' = none) := by
    refine runD_ex ?_
    show W (evSs _ b_law_mixed [.imm (.int a), .imm (.int b), .no, .no, .no]) _
    unfold b_law_mixed
    have h1 := fm_pos (a * 48271 + b * 69621 + 11) (m := 618970019642690137449562111) (by omega)
    refine W_next (env' := [.imm (.int a), .imm (.int b), .imm (.int ((a * 48271 + b * 69621 + 11).fmod 618970019642690137449562111)), .no, .no]) (by walk_at "z") ?_
    generalize (a * 48271 + b * 69621 + 11).fmod 618970019642690137449562111 = f1 at h1 ⊢
    have m1 : mulOk f1 f1 = true := mulOk_big (by omega)
    have h2 := fm_pos (f1 * f1 + 7 * f1 + b) (m := 162259276829213363391578010288127) (by omega)
    refine W_next (env' := [.imm (.int a), .imm (.int b), .imm (.int f1), .imm (.int ((f1 * f1 + 7 * f1 + b).fmod 162259276829213363391578010288127)), .no]) (by walk_at "z") ?_
    generalize (f1 * f1 + 7 * f1 + b).fmod 162259276829213363391578010288127 = f2 at h2 ⊢
    have m2 : mulOk f2 f2 = true := mulOk_big (by omega)
    refine W_next (env' := [.imm (.int a), .imm (.int b), .imm (.int f1), .imm (.int f2), .imm (.int ((f2 * f2 + f1).fmod 618970019642690137449562111))]) (by walk_at "z") ?_
    have m3 : mulOk f2 618970019642690137449562111 = true := mulOk_big (by omega)
    exact W_ret (by walk_at "z"; rfl) ⟨⟨_, rfl⟩, rfl⟩
  obtain ⟨r, o', h1, ⟨v, rfl⟩, rfl⟩ := key
  exact ⟨v, h1⟩
theorem atI_ok {ns : List Int} {i : Int} (h0 : 0 ≤ i) (h1 : i < ns.length) : ∃ v, L2.atI (L ns) i = some (.int v) := by
  obtain ⟨m, rfl⟩ : ∃ m : Nat, i = m := ⟨i.toNat, by omega⟩
  exact ⟨ns[m]'(by omega), at_nat ns m _ (List.getElem?_eq_getElem (by omega))⟩
theorem f_rest (k : Nat) (ns : List Int) (p f : Int) : ∃ v, run tb.T (k + 2) i_law_rest none [.dict [(.none, .list (L ns))], .int p, .int f] = some (.imm (.int v), none) := by
  have key : ∃ r o', runD (run tb.T (k + 1)) 4 b_law_rest none [.dict [(.none, .list (L ns))], .int p, .int f] = some (r, o') ∧ ((∃ v, r = .imm (.int v)) ∧ o' = none) := by
    refine runD_ex ?_
    show W (evSs _ b_law_rest [.imm (.dict [(.none, .list (L ns))]), .imm (.int p), .imm (.int f), .no]) _
    unfold b_law_rest
    refine W_next (env' := [.imm (.dict [(.none, .list (L ns))]), .imm (.int p), .imm (.int f), .imm (.int 0)]) (by walk_at "z") ?_
    have hL := L_len ns
    have st2 : ∀ n, W (evSs (run tb.T (k + 1)) (.cons (.ife (.cmp .lt (.v 3) (.int 0)) (.cons (.asg 3 (.op .sub (.int 1) (.op .mul (.int 2) (.v 3)))) .nil) .nil) (.cons (.ife (.bop true (.cons (.cmp .eq (.v 2) (.int 0)) (.cons (.cmp .lt (.v 1) (.lenv 0)) (.cons (.cmp .ge (.v 3) (.op .pow (.int 10) (.int 18))) .nil)))) (.cons (.ret (.op .sub (.v 3) (.op .pow (.int 10) (.int 18)))) .nil) .nil) (.cons (.ret (.call 7 (.cons (.op .add (.v 3) (.op .mul (.v 2) (.int 1000003))) (.cons (.v 1) .nil)))) .nil))) [.imm (.dict [(.none, .list (L ns))]), .imm (.int p), .imm (.int f), .imm (.int n)]) (fun fl e => match fl with
    | .ret r' => ((∃ v, r' = .imm (.int v)) ∧ ioOf e = none)
    | .next => ((∃ v, (.imm .none : Res) = .imm (.int v)) ∧ ioOf e = none)
    | _ => False) := by
      have st3 : ∀ n, W (evSs (run tb.T (k + 1)) (.cons (.ife (.bop true (.cons (.cmp .eq (.v 2) (.int 0)) (.cons (.cmp .lt (.v 1) (.lenv 0)) (.cons (.cmp .ge (.v 3) (.op .pow (.int 10) (.int 18))) .nil)))) (.cons (.ret (.op .sub (.v 3) (.op .pow (.int 10) (.int 18)))) .nil) .nil) (.cons (.ret (.call 7 (.cons (.op .add (.v 3) (.op .mul (.v 2) (.int 1000003))) (.cons (.v 1) .nil)))) .nil)) [.imm (.dict [(.none, .list (L ns))]), .imm (.int p), .imm (.int f), .imm (.int n)]) (fun fl e => match fl with
    | .ret r' => ((∃ v, r' = .imm (.int v)) ∧ ioOf e = none)
    | .next => ((∃ v, (.imm .none : Res) = .imm (.int v)) ∧ ioOf e = none)
    | _ => False) := by
        intro n
        obtain ⟨w, hw⟩ := f_mixed k (n + f * 1000003) p
        have fin : W (evSs (run tb.T (k + 1)) (.cons (.ret (.call 7 (.cons (.op .add (.v 3) (.op .mul (.v 2) (.int 1000003))) (.cons (.v 1) .nil)))) .nil) [.imm (.dict [(.none, .list (L ns))]), .imm (.int p), .imm (.int f), .imm (.int n)]) (fun fl e => match fl with
    | .ret r' => ((∃ v, r' = .imm (.int v)) ∧ ioOf e = none)
    | .next => ((∃ v, (.imm .none : Res) = .imm (.int v)) ∧ ioOf e = none)
    | _ => False) := by
          refine W_ret (r := .imm (.int w)) (env' := [.imm (.dict [(.none, .list (L ns))]), .imm (.int p), .imm (.int f), .imm (.int n)]) ?_ ⟨⟨_, rfl⟩, rfl⟩
          walk_at "z"
          rw [hw]
        have hc : ∀ b : Bool, b = (decide (f = 0) && (decide (p < ((L ns).length : Int)) && decide ((10 : Int) ^ (18 : Int).toNat ≤ n))) → (evE (run tb.T (k + 1)) (.bop true (.cons (.cmp .eq (.v 2) (.int 0)) (.cons (.cmp .lt (.v 1) (.lenv 0)) (.cons (.cmp .ge (.v 3) (.op .pow (.int 10) (.int 18))) .nil))))).t [.imm (.dict [(.none, .list (L ns))]), .imm (.int p), .imm (.int f), .imm (.int n)] = some (b, [.imm (.dict [(.none, .list (L ns))]), .imm (.int p), .imm (.int f), .imm (.int n)]) := by
          rintro b rfl
          clear hL
          cases h1 : decide (f = 0) with
          | false => walk_at "zs"; rfl
          | true =>
            cases h2 : decide (p < ((L ns).length : Int)) with
            | false => walk_at "zs"; rfl
            | true => walk_at "zs"
        refine W_cons (W_if (hc _ rfl) (fun _ => ?_) (fun _ => W_nil fin))
        exact W_ret (by walk_at "z"; rfl) ⟨⟨_, rfl⟩, rfl⟩
      intro n
      refine W_cons (W_if (by walk_at "z"; rfl) (fun _ => ?_) (fun _ => W_nil (st3 _)))
      exact W_next (by walk_at "z"; rfl) (W_nil (st3 _))
    refine W_cons (W_if (by walk_at "z"; rfl) (fun hc => ?_) (fun _ => W_nil (st2 _)))
    have hc : (0 : Int) < ((L ns).length : Int) := of_decide_eq_true hc
    have hm := fm_pos p hc
    rw [hL] at hm
    obtain ⟨v, hv⟩ := atI_ok (ns := ns) hm.1 hm.2
    rw [← hL] at hv
    refine W_next (env' := [.imm (.dict [(.none, .list (L ns))]), .imm (.int p), .imm (.int f), .imm (.int v)]) ?_ (W_nil (st2 _))
    clear hL st2
    have hc1 : (((L ns).length : Int)) ≠ 0 := by omega
    walk_at "zs"
  obtain ⟨r, o', h1, ⟨v, rfl⟩, rfl⟩ := key
  exact ⟨v, h1⟩
theorem p4_0 (a b c d : D) : L2.atI [a, b, c, d] 0 = some a := rfl
theorem p4_1 (a b c d : D) : L2.atI [a, b, c, d] 1 = some b := rfl
theorem p4_2 (a b c d : D) : L2.atI [a, b, c, d] 2 = some c := rfl
theorem p4_3 (a b c d : D) : L2.atI [a, b, c, d] 3 = some d := rfl
theorem n4_1 : L2.ixN (0 + 1 + 1 + 1 + 1) 1 = some 1 := rfl
theorem n4_2 : L2.ixN (0 + 1 + 1 + 1 + 1) 2 = some 2 := rfl
theorem n4_3 : L2.ixN (0 + 1 + 1 + 1 + 1) 3 = some 3 := rfl
theorem f_pool (k : Nat) (ns : List Int) : ∃ o, run tb.T (k + 3) i_law_pool none [.dict [(.none, .list (L ns))]] = some (.own o, none) ∧ IsP o := by
  have key : ∃ r o', runD (run tb.T (k + 2)) 1 b_law_pool none [.dict [(.none, .list (L ns))]] = some (r, o') ∧ ((∃ o, r = .own o ∧ IsP o) ∧ o' = none) := by
    refine runD_ex ?_
    show W (evSs _ b_law_pool [.imm (.dict [(.none, .list (L ns))])]) _
    unfold b_law_pool
    obtain ⟨v, hv⟩ := f_rest k ns 0 0
    have hs := szl
    refine W_ret (r := .own (.lst [.dict [(.none, .list (L ns))], .int 0, .int v, .int 0])) (env' := [.imm (.dict [(.none, .list (L ns))])]) ?_ ⟨⟨_, rfl, ns, 0, v, 0, rfl⟩, rfl⟩
    walk_at "z"
    rw [hv]
    walk_at "z"
  obtain ⟨r, o', h1, ⟨v, rfl, h2⟩, rfl⟩ := key
  exact ⟨v, h1, h2⟩
theorem f_next (k : Nat) (o : O) (ho : IsP o) : ∃ o', run tb.T (k + 3) i_law_next (some o) [] = some (.imm .none, some o') ∧ IsP o' := by
  obtain ⟨ns, p, r, f, rfl⟩ := ho
  obtain ⟨v, hv⟩ := f_rest k ns (p + 1) 0
  refine ⟨.lst [.dict [(.none, .list (L ns))], .int (p + 1), .int v, .int 0], ?_, ns, p + 1, v, 0, rfl⟩
  show runD (run tb.T (k + 2)) 1 b_law_next (some _) [] = _
  refine runD_of ?_
  show W (evSs _ b_law_next [.io (.lst [.dict [(.none, .list (L ns))], .int p, .int r, .int f])]) _
  unfold b_law_next
  refine W_next (env' := [.io (.lst [.dict [(.none, .list (L ns))], .int (p + 1), .int r, .int f])]) rfl ?_
  refine W_next (env' := [.io (.lst [.dict [(.none, .list (L ns))], .int (p + 1), .int v, .int f])]) ?_ ?_
  · have h0 := p4_0 (.dict [(.none, .list (L ns))]) (.int (p + 1)) (.int r) (.int f)
    have h1 := p4_1 (.dict [(.none, .list (L ns))]) (.int (p + 1)) (.int r) (.int f)
    have h2 := n4_2
    walk_at "zs"
  refine W_next (env' := [.io (.lst [.dict [(.none, .list (L ns))], .int (p + 1), .int v, .int 0])]) rfl ?_
  exact W_nil ⟨rfl, rfl⟩
theorem f_draw (k : Nat) (o : O) (lim : Int) (ho : IsP o) (hl : 0 < lim ∧ lim < 1073741824) : ∃ v o', run tb.T (k + 3) i_law_draw (some o) [.int lim] = some (.imm (.int v), some o') ∧ IsP o' ∧ 0 ≤ v ∧ v < lim := by
  obtain ⟨ns, p, r, f, rfl⟩ := ho
  have key : ∃ r' o', runD (run tb.T (k + 2)) 3 b_law_draw (some (.lst [.dict [(.none, .list (L ns))], .int p, .int r, .int f])) [.int lim] = some (r', o') ∧ (∃ v o2, r' = .imm (.int v) ∧ o' = some o2 ∧ IsP o2 ∧ 0 ≤ v ∧ v < lim) := by
    refine runD_ex ?_
    show W (evSs _ b_law_draw [.io (.lst [.dict [(.none, .list (L ns))], .int p, .int r, .int f]), .imm (.int lim), .no]) _
    unfold b_law_draw
    have st2 : ∀ r f, W (evSs (run tb.T (k + 2)) (.cons (.asg 2 (.op .mod (.bi .int (.cons (.ixv 0 (.int 2)) .nil)) (.v 1))) (.cons (.setix 0 (.int 2) (.op .fdiv (.bi .int (.cons (.ixv 0 (.int 2)) .nil)) (.v 1))) (.cons (.ret (.v 2)) .nil))) [.io (.lst [.dict [(.none, .list (L ns))], .int p, .int r, .int f]), .imm (.int lim), .no]) (fun fl e => match fl with
      | .ret r' => (∃ v o2, r' = .imm (.int v) ∧ ioOf e = some o2 ∧ IsP o2 ∧ 0 ≤ v ∧ v < lim)
      | .next => (∃ v o2, (.imm .none : Res) = .imm (.int v) ∧ ioOf e = some o2 ∧ IsP o2 ∧ 0 ≤ v ∧ v < lim)
      | _ => False) := by
      intro r f
      have hm := fm_pos r hl.1
      refine W_next (env' := [.io (.lst [.dict [(.none, .list (L ns))], .int p, .int r, .int f]), .imm (.int lim), .imm (.int (r.fmod lim))]) ?_ ?_
      · have h0 := p4_2 (.dict [(.none, .list (L ns))]) (.int p) (.int r) (.int f)
        walk_at "zs"
      refine W_next (env' := [.io (.lst [.dict [(.none, .list (L ns))], .int p, .int (r.fdiv lim), .int f]), .imm (.int lim), .imm (.int (r.fmod lim))]) ?_ ?_
      · have h0 := p4_2 (.dict [(.none, .list (L ns))]) (.int p) (.int r) (.int f)
        have h2 := n4_2
        walk_at "zs"
      exact W_ret rfl ⟨_, _, rfl, rfl, ⟨ns, p, r.fdiv lim, f, rfl⟩, hm.1, hm.2⟩
    refine W_cons (W_if (k := decide (r ≤ 1)) rfl (fun hc => ?_) (fun _ => W_nil (st2 r f)))
    obtain ⟨v, hv⟩ := f_rest k ns p (f + 1)
    refine W_next (env' := [.io (.lst [.dict [(.none, .list (L ns))], .int p, .int r, .int (f + 1)]), .imm (.int lim), .no]) rfl ?_
    refine W_next (env' := [.io (.lst [.dict [(.none, .list (L ns))], .int p, .int v, .int (f + 1)]), .imm (.int lim), .no]) ?_ (W_nil (st2 _ _))
    have h0 := p4_0 (.dict [(.none, .list (L ns))]) (.int p) (.int r) (.int (f + 1))
    have h1 := p4_1 (.dict [(.none, .list (L ns))]) (.int p) (.int r) (.int (f + 1))
    have h3 := p4_3 (.dict [(.none, .list (L ns))]) (.int p) (.int r) (.int (f + 1))
    have h2 := n4_2
    clear st2
    walk_at "zs"
  obtain ⟨r', o', h1, v, o2, rfl, rfl, h2, h3⟩ := key
  exact ⟨v, o2, h1, h2, h3⟩
end K48
namespace K48
open PySem PySem.Spec PyProof.Rows Z
local macro_rules | `(tactic| walk_at "z") => `(tactic| simp (disch := first | omega | assumption | decide | (apply IsP.l; assumption)) only [IFP, IFdiv, IFpow, IFT, IFtt, sh_int, sh_bool, sh_none, sh_L, Bool.and_self, Bool.true_and, Bool.and_true, flatD, List.all_cons, List.all_nil, List.length_cons, List.length_nil, decide_true, decide_false, Bool.not_false, Bool.not_true, eqv_int, eqv_L, evSs, evS, evE, evEs, evI, mE, msCons, msNil, Es.isNil, cV, cC, cGl, vOf, cOp, opD, addD, mulD, Z.intD, mulOk_l, mulOk_r, cNeg, cCmp, cmpD, ordD, cNot, cIte, cLst, cTup, cCall, cCallIO, cBi, biD, lenD, listD, tupleD, int1D, int2D, allD, sumD, intsD, boolsD, strD, cIsi, isiD, cPopv, cMe, meD, cRev, revD, sMk, seqD, cLenv, cIxv, cSlv, cIx, ixD, cSl, slD, tE, tV, tNot, truD, esCons, bCons, tCons, tsCons, pOne, iIt, iRng, iEnu, tupOf, itD, rangeD, sAsg, sAsgT, sSetix, sApp, sExt, sExpr, sRet, sRetV, sIf, rdV, rdR, ownAt, putO, put1, ioB_no, ioB_imm, ioB_own, ioB_gs, putT, putR, fz, Res.d, O.d, Slot.o,
  List.getElem?_cons_zero, List.getElem?_cons_succ, List.set_cons_zero, List.set_cons_succ, if_true, if_false, ite_true, ite_false, Bool.false_eq_true, reduceIte])
local macro_rules | `(tactic| walk_at "zs") => `(tactic| simp (disch := first | omega | assumption | decide | (apply IsP.l; assumption)) only [IFP, IFdiv, IFpow, IFT, IFtt, sh_int, sh_bool, sh_none, sh_L, Bool.and_self, Bool.true_and, Bool.and_true, flatD, List.all_cons, List.all_nil, List.length_cons, List.length_nil, decide_true, decide_false, Bool.not_false, Bool.not_true, eqv_int, eqv_L, evSs, evS, evE, evEs, evI, mE, msCons, msNil, Es.isNil, cV, cC, cGl, vOf, cOp, opD, addD, mulD, Z.intD, mulOk_l, mulOk_r, cNeg, cCmp, cmpD, ordD, cNot, cIte, cLst, cTup, cCall, cCallIO, cBi, biD, lenD, listD, tupleD, int1D, int2D, allD, sumD, intsD, boolsD, strD, cIsi, isiD, cPopv, cMe, meD, cRev, revD, sMk, seqD, cLenv, cIxv, cSlv, cIx, ixD, cSl, slD, tE, tV, tNot, truD, esCons, bCons, tCons, tsCons, pOne, iIt, iRng, iEnu, tupOf, itD, rangeD, sAsg, sAsgT, sSetix, sApp, sExt, sExpr, sRet, sRetV, sIf, rdV, rdR, ownAt, putO, put1, ioB_no, ioB_imm, ioB_own, ioB_gs, putT, putR, fz, Res.d, O.d, Slot.o,
  List.getElem?_cons_zero, List.getElem?_cons_succ, List.set_cons_zero, List.set_cons_succ, if_true, if_false, ite_true, ite_false, Bool.false_eq_true, reduceIte, *])
/-! ### _law_same -/
theorem sh_str (s : Str) (h : PyData.strOk s = true) : SeqAt.shaped (.str s) = true := by simp [SeqAt.shaped, PyData.canLay0, PyData.depth, h]
def good : Nat → D → Bool
  | _, .int _ => true
  | _, .none => true
  | _, .str s => PyData.strOk s
  | n + 1, .list xs => decide (xs.length < 1000000) && xs.all (good n)
  | n + 1, .tuple xs => decide (xs.length < 1000000) && xs.all (good n)
  | _, _ => false
theorem atI_some {xs : List D} {i : Nat} {d : D} (h : xs[i]? = some d) : L2.atI xs (i : Int) = some d := by
  exact L2.atI_nat h
theorem bools_rep (n : Nat) : boolsD (List.replicate n (.bool true)) = some (List.replicate n true) := by
  induction n with
  | zero => rfl
  | succ n ih =>
    rw [List.replicate_succ, List.replicate_succ]
    unfold boolsD
    rw [ih]
    rfl
theorem all_rep (n : Nat) : (List.replicate n true).all id = true := by simp
theorem comp_same {Γ : Fn} (x : D) (xs : List D) (hx : x = .list xs ∨ x = .tuple xs) (hl : xs.length < 1000000) (ih : ∀ y ∈ xs, Γ i_law_same none [y, y] = some (.imm (.bool true), none)) :
    cComp (evE Γ e_law_same_2).e 3 (evI Γ q_law_same_2) (fun env => some (true, env)) [.imm x, .imm x, .no, .no] = some (.own (.lst (List.replicate xs.length (.bool true))), [.imm x, .imm x, .no, .no]) := by
  have hs := szl
  refine comp_mapY (ds := (List.range xs.length).map fun i : Nat => PyData.int i) (s := .no) (fun _ => .bool true) ?hsrc ?hs rfl (by rw [List.length_map, List.length_range]; omega) ?hf ?hy
  case hsrc =>
    unfold q_law_same_2
    rcases hx with rfl | rfl
    · walk_at "z"
      rw [Int.toNat_natCast]
    · walk_at "z"
      rw [Int.toNat_natCast]
  case hs => rfl
  case hy =>
    rw [List.map_map]
    apply List.ext_getElem?
    intro i
    rw [List.getElem?_map, List.getElem?_replicate]
    by_cases hi : i < xs.length
    · rw [List.getElem?_range hi, if_pos hi]
      rfl
    · rw [List.getElem?_eq_none (by simp; omega), if_neg hi]
      rfl
  intro d hd
  obtain ⟨i, hi, rfl⟩ := List.mem_map.mp hd
  have hi := List.mem_range.mp hi
  have ha := atI_some (List.getElem?_eq_getElem hi)
  have hr := ih _ (List.getElem_mem hi)
  generalize xs[i] = y at ha hr
  unfold e_law_same_2
  clear hd ih
  rcases hx with rfl | rfl
  · walk_at "z"
    rw [ha]
    walk_at "z"
    rw [ha]
    walk_at "z"
    rw [hr]
  · walk_at "z"
    rw [ha]
    walk_at "z"
    rw [ha]
    walk_at "z"
    rw [hr]
theorem f_same : ∀ (n : Nat) (x : D), good n x = true → ∀ k, run tb.T (k + n + 1) i_law_same none [x, x] = some (.imm (.bool true), none) := by
  have start : ∀ (x : D) (m : Nat), W (evSs (run tb.T m) b_law_same [.imm x, .imm x, .no, .no]) (fun fl e => match fl with
    | .ret r' => r' = .imm (.bool true) ∧ ioOf e = none
    | .next => (.imm .none : Res) = .imm (.bool true) ∧ ioOf e = none
    | _ => False) → run tb.T (m + 1) i_law_same none [x, x] = some (.imm (.bool true), none) := fun x m h => runD_of (by
      refine W.mono h fun fl e => ?_
      cases fl <;> simp)
  have sh_s : ∀ s : Str, PyData.strOk s = true → SeqAt.shaped (.str s) = true := sh_str
  have go : ∀ (n : Nat), (∀ (x : D), good n x = true → ∀ k, run tb.T (k + n + 1) i_law_same none [x, x] = some (.imm (.bool true), none)) → ∀ (xs : List D) (x : D), (x = .list xs ∨ x = .tuple xs) → good (n + 1) x = true → ∀ k, run tb.T (k + (n + 1) + 1) i_law_same none [x, x] = some (.imm (.bool true), none) := by
    intro n ih xs x hx hg k
    have hg2 : (decide (xs.length < 1000000) && xs.all (good n)) = true := by
      rcases hx with rfl | rfl
      · unfold good at hg; exact hg
      · unfold good at hg; exact hg
    rw [Bool.and_eq_true, List.all_eq_true] at hg2
    have hl := of_decide_eq_true hg2.1
    have hc := comp_same x xs hx hl (Γ := run tb.T (k + n + 1)) fun y hy => ih y (hg2.2 y hy) k
    refine start x (k + n + 1) ?_
    unfold b_law_same
    have hb := bools_rep xs.length
    have ha := all_rep xs.length
    have d0 : decide ((xs.length : Int) = (xs.length : Int)) = true := decide_eq_true rfl
    clear hg hg2 ih
    rcases hx with rfl | rfl
    · refine W_cons (W_if (k := false) (env' := [.imm (.list xs), .imm (.list xs), .no, .no]) (by walk_at "z" <;> rfl) (fun z => nomatch z) (fun _ => W_nil ?_))
      refine W_cons (W_if (k := true) (env' := [.imm (.list xs), .imm (.list xs), .no, .no]) (by walk_at "z" <;> rfl) (fun _ => ?_) (fun z => nomatch z))
      refine W_cons (W_if (k := false) (env' := [.imm (.list xs), .imm (.list xs), .no, .no]) (by walk_at "z" <;> rfl) (fun z => nomatch z) (fun _ => W_nil ?_))
      refine W_ret (env' := [.imm (.list xs), .imm (.list xs), .no, .no]) ?_ ⟨rfl, rfl⟩
      walk_at "zs"
    · refine W_cons (W_if (k := false) (env' := [.imm (.tuple xs), .imm (.tuple xs), .no, .no]) (by walk_at "z" <;> rfl) (fun z => nomatch z) (fun _ => W_nil ?_))
      refine W_cons (W_if (k := true) (env' := [.imm (.tuple xs), .imm (.tuple xs), .no, .no]) (by walk_at "z" <;> rfl) (fun _ => ?_) (fun z => nomatch z))
      refine W_cons (W_if (k := false) (env' := [.imm (.tuple xs), .imm (.tuple xs), .no, .no]) (by walk_at "z" <;> rfl) (fun z => nomatch z) (fun _ => W_nil ?_))
      refine W_ret (env' := [.imm (.tuple xs), .imm (.tuple xs), .no, .no]) ?_ ⟨rfl, rfl⟩
      walk_at "zs"
  have atom : ∀ (n : Nat) (x : D), good n x = true → (∀ xs, x ≠ .list xs) → (∀ xs, x ≠ .tuple xs) → ∀ k, run tb.T (k + 1) i_law_same none [x, x] = some (.imm (.bool true), none) := by
    intro n x hg h1 h2 k
    refine start x k ?_
    unfold b_law_same
    cases x with
    | list xs => exact absurd rfl (h1 xs)
    | tuple xs => exact absurd rfl (h2 xs)
    | int i =>
      clear h1 h2
      refine W_cons (W_if (k := false) (env' := [.imm (.int i), .imm (.int i), .no, .no]) (by walk_at "z" <;> rfl) (fun z => nomatch z) (fun _ => W_nil ?_))
      refine W_cons (W_if (k := false) (env' := [.imm (.int i), .imm (.int i), .no, .no]) (by walk_at "z" <;> rfl) (fun z => nomatch z) (fun _ => W_nil ?_))
      refine W_cons (W_if (k := false) (env' := [.imm (.int i), .imm (.int i), .no, .no]) (by walk_at "z" <;> rfl) (fun z => nomatch z) (fun _ => W_nil ?_))
      refine W_cons (W_if (k := false) (env' := [.imm (.int i), .imm (.int i), .no, .no]) ?_ (fun z => nomatch z) (fun _ => W_nil ?_))
      · walk_at "z" <;> rfl
      refine W_ret (env' := [.imm (.int i), .imm (.int i), .no, .no]) ?_ ⟨rfl, rfl⟩
      walk_at "z" <;> rfl
    | none =>
      clear h1 h2
      refine W_cons (W_if (k := false) (env' := [.imm .none, .imm .none, .no, .no]) (by walk_at "z" <;> rfl) (fun z => nomatch z) (fun _ => W_nil ?_))
      refine W_cons (W_if (k := false) (env' := [.imm .none, .imm .none, .no, .no]) (by walk_at "z" <;> rfl) (fun z => nomatch z) (fun _ => W_nil ?_))
      refine W_cons (W_if (k := false) (env' := [.imm .none, .imm .none, .no, .no]) (by walk_at "z" <;> rfl) (fun z => nomatch z) (fun _ => W_nil ?_))
      refine W_cons (W_if (k := true) (env' := [.imm .none, .imm .none, .no, .no]) ?_ (fun _ => ?_) (fun z => nomatch z))
      · walk_at "z" <;> rfl
      refine W_ret (env' := [.imm .none, .imm .none, .no, .no]) ?_ ⟨rfl, rfl⟩
      walk_at "z" <;> rfl
    | str s =>
      have hsh := sh_s s (by unfold good at hg; exact hg)
      have he : PyData.eqv (.str s) (.str s) = true := by simp [PyData.eqv]
      clear h1 h2
      refine W_cons (W_if (k := false) (env' := [.imm (.str s), .imm (.str s), .no, .no]) (by walk_at "z" <;> rfl) (fun z => nomatch z) (fun _ => W_nil ?_))
      refine W_cons (W_if (k := false) (env' := [.imm (.str s), .imm (.str s), .no, .no]) (by walk_at "z" <;> rfl) (fun z => nomatch z) (fun _ => W_nil ?_))
      refine W_cons (W_if (k := true) (env' := [.imm (.str s), .imm (.str s), .no, .no]) (by walk_at "z" <;> rfl) (fun _ => ?_) (fun z => nomatch z))
      refine W_ret (env' := [.imm (.str s), .imm (.str s), .no, .no]) ?_ ⟨rfl, rfl⟩
      walk_at "zs"
    | _ => simp [good] at hg
  intro n
  induction n with
  | zero =>
    intro x hg k
    refine atom 0 x hg ?_ ?_ k
    · rintro xs rfl
      simp [good] at hg
    · rintro xs rfl
      simp [good] at hg
  | succ n ih =>
    intro x hg k
    by_cases h1 : ∃ xs, x = .list xs
    · obtain ⟨xs, rfl⟩ := h1
      exact go n ih xs _ (Or.inl rfl) hg k
    · by_cases h2 : ∃ xs, x = .tuple xs
      · obtain ⟨xs, rfl⟩ := h2
        exact go n ih xs _ (Or.inr rfl) hg k
      · exact atom (n + 1) x hg (fun xs e => h1 ⟨xs, e⟩) (fun xs e => h2 ⟨xs, e⟩) (k + (n + 1))
end K48
namespace K48
open PySem PySem.Spec PyProof.Rows Z
local macro_rules | `(tactic| walk_at "z") => `(tactic| simp (disch := first | omega | assumption | decide | (apply IsP.l; assumption)) only [IFP, IFdiv, IFpow, IFT, IFtt, sh_int, sh_bool, sh_none, sh_L, Bool.and_self, Bool.true_and, Bool.and_true, flatD, List.all_cons, List.all_nil, List.length_cons, List.length_nil, decide_true, decide_false, Bool.not_false, Bool.not_true, eqv_int, eqv_L, evSs, evS, evE, evEs, evI, mE, msCons, msNil, Es.isNil, cV, cC, cGl, vOf, cOp, opD, addD, mulD, Z.intD, mulOk_l, mulOk_r, cNeg, cCmp, cmpD, ordD, cNot, cIte, cLst, cTup, cCall, cCallIO, cBi, biD, lenD, listD, tupleD, int1D, int2D, allD, sumD, intsD, boolsD, strD, cIsi, isiD, cPopv, cMe, meD, cRev, revD, sMk, seqD, cLenv, cIxv, cSlv, cIx, ixD, cSl, slD, tE, tV, tNot, truD, esCons, bCons, tCons, tsCons, pOne, iIt, iRng, iEnu, tupOf, itD, rangeD, sAsg, sAsgT, sSetix, sApp, sExt, sExpr, sRet, sRetV, sIf, rdV, rdR, ownAt, putO, put1, ioB_no, ioB_imm, ioB_own, ioB_gs, putT, putR, fz, Res.d, O.d, Slot.o,
  List.getElem?_cons_zero, List.getElem?_cons_succ, List.set_cons_zero, List.set_cons_succ, if_true, if_false, ite_true, ite_false, Bool.false_eq_true, reduceIte])
local macro_rules | `(tactic| walk_at "zs") => `(tactic| simp (disch := first | omega | assumption | decide | (apply IsP.l; assumption)) only [IFP, IFdiv, IFpow, IFT, IFtt, sh_int, sh_bool, sh_none, sh_L, Bool.and_self, Bool.true_and, Bool.and_true, flatD, List.all_cons, List.all_nil, List.length_cons, List.length_nil, decide_true, decide_false, Bool.not_false, Bool.not_true, eqv_int, eqv_L, evSs, evS, evE, evEs, evI, mE, msCons, msNil, Es.isNil, cV, cC, cGl, vOf, cOp, opD, addD, mulD, Z.intD, mulOk_l, mulOk_r, cNeg, cCmp, cmpD, ordD, cNot, cIte, cLst, cTup, cCall, cCallIO, cBi, biD, lenD, listD, tupleD, int1D, int2D, allD, sumD, intsD, boolsD, strD, cIsi, isiD, cPopv, cMe, meD, cRev, revD, sMk, seqD, cLenv, cIxv, cSlv, cIx, ixD, cSl, slD, tE, tV, tNot, truD, esCons, bCons, tCons, tsCons, pOne, iIt, iRng, iEnu, tupOf, itD, rangeD, sAsg, sAsgT, sSetix, sApp, sExt, sExpr, sRet, sRetV, sIf, rdV, rdR, ownAt, putO, put1, ioB_no, ioB_imm, ioB_own, ioB_gs, putT, putR, fz, Res.d, O.d, Slot.o,
  List.getElem?_cons_zero, List.getElem?_cons_succ, List.set_cons_zero, List.set_cons_succ, if_true, if_false, ite_true, ite_false, Bool.false_eq_true, reduceIte, *])
/-! ### bytes and bits -/
def bI (b : Bool) : Int := if b then 1 else 0
theorem bitsOf_len : ∀ bs : List Int, (bitsOf bs).length = 8 * bs.length
  | [] => rfl
  | b :: bs => by
    have ih := bitsOf_len bs
    show (bitsB b.toNat ++ bitsOf bs).length = _
    rw [List.length_append, bitsB_len, ih, List.length_cons]
    omega
def val8 (l : List Bool) : Int := l.foldl (fun a b => 2 * a + bI b) 0
def bytesOf (l : List Bool) (n : Nat) : List Int := (List.range n).map fun i => val8 ((l.drop (8 * i)).take 8)
theorem val8_bits : ∀ m : Fin 256, val8 (bitsB m.val) = (m.val : Int) := by decide +kernel
theorem val8_B {m : Nat} (h : m < 256) : val8 (bitsB m) = (m : Int) := val8_bits ⟨m, h⟩
theorem bits32_cut (s i : Nat) (h : i < 4) : ((Crc.bits32 s).drop (8 * i)).take 8 = bitsB (s / 2 ^ (24 - 8 * i) % 256) := by
  apply List.ext_getElem?
  intro j
  unfold Crc.bits32 bitsB
  rw [List.getElem?_take]
  by_cases hj : j < 8
  · rw [if_pos hj, List.getElem?_drop, List.getElem?_map, List.getElem?_map, List.getElem?_range (by omega), List.getElem?_range hj]
    show some (s.testBit (31 - (8 * i + j))) = some ((s / 2 ^ (24 - 8 * i) % 256).testBit (7 - j))
    rw [show (256 : Nat) = 2 ^ 8 by rfl, Nat.testBit_mod_two_pow, Nat.testBit_div_two_pow, decide_eq_true (by omega), Bool.true_and, show 7 - j + (24 - 8 * i) = 31 - (8 * i + j) by omega]
  · rw [if_neg hj, List.getElem?_eq_none (by simp; omega)]
theorem bytes32 (s : Nat) (h : s < 2 ^ 32) : bytesOf (Crc.bits32 s) 4 = sum4 s := by
  unfold bytesOf sum4
  show [val8 (((Crc.bits32 s).drop (8 * 0)).take 8), val8 (((Crc.bits32 s).drop (8 * 1)).take 8), val8 (((Crc.bits32 s).drop (8 * 2)).take 8), val8 (((Crc.bits32 s).drop (8 * 3)).take 8)] = _
  rw [bits32_cut s 0 (by decide), bits32_cut s 1 (by decide), bits32_cut s 2 (by decide), bits32_cut s 3 (by decide), val8_B (Nat.mod_lt _ (by decide)), val8_B (Nat.mod_lt _ (by decide)), val8_B (Nat.mod_lt _ (by decide)), val8_B (Nat.mod_lt _ (by decide))]
  simp
/-! ### the plain law: blocks are right, a changed one is not -/
theorem bitsOf_at : ∀ (a : List Int) (i j : Nat) (n : Int), a[i]? = some n → j < 8 → (bitsOf a)[8 * i + j]? = some (n.toNat.testBit (7 - j))
  | [], i, j, n, h, _ => by simp at h
  | x :: a, 0, j, n, h, hj => by
    cases h
    show (bitsB x.toNat ++ bitsOf a)[8 * 0 + j]? = _
    rw [List.getElem?_append_left (by rw [bitsB_len]; omega), show 8 * 0 + j = j by omega, bitsB_at _ _ hj]
  | x :: a, i + 1, j, n, h, hj => by
    show (bitsB x.toNat ++ bitsOf a)[8 * (i + 1) + j]? = _
    rw [List.getElem?_append_right (by rw [bitsB_len]; omega), bitsB_len, show 8 * (i + 1) + j - 8 = 8 * i + j by omega]
    exact bitsOf_at a i j n (by simpa using h) hj
theorem val8_range : ∀ b7 b6 b5 b4 b3 b2 b1 b0 : Bool, 0 ≤ val8 [b7, b6, b5, b4, b3, b2, b1, b0] ∧ val8 [b7, b6, b5, b4, b3, b2, b1, b0] < 256 ∧ bitsB (val8 [b7, b6, b5, b4, b3, b2, b1, b0]).toNat = [b7, b6, b5, b4, b3, b2, b1, b0] := by decide +kernel
theorem val8_list {l : List Bool} (h : l.length = 8) : 0 ≤ val8 l ∧ val8 l < 256 ∧ bitsB (val8 l).toNat = l := by
  match l, h with
  | [a, b, c, d, e, f, g, i], _ => exact val8_range a b c d e f g i
theorem bytesOf_len (l : List Bool) (n : Nat) : (bytesOf l n).length = n := by simp [bytesOf]
theorem chunk_len {l : List Bool} {n i : Nat} (h : l.length = 8 * n) (hi : i < n) : ((l.drop (8 * i)).take 8).length = 8 := by
  rw [List.length_take, List.length_drop]
  omega
theorem bytesOf_isB {l : List Bool} {n : Nat} (h : l.length = 8 * n) : isB (bytesOf l n) := by
  intro b hb
  obtain ⟨i, hi, rfl⟩ := List.mem_map.mp hb
  have := val8_list (chunk_len h (List.mem_range.mp hi))
  exact ⟨this.1, this.2.1⟩
theorem bytesOf_at {l : List Bool} {n i : Nat} (hi : i < n) : (bytesOf l n)[i]? = some (val8 ((l.drop (8 * i)).take 8)) := by
  unfold bytesOf
  rw [List.getElem?_map, List.getElem?_range hi]
  rfl
theorem bits_bytes {l : List Bool} {n : Nat} (h : l.length = 8 * n) : bitsOf (bytesOf l n) = l := by
  apply List.ext_getElem?
  intro q
  by_cases hq : q < 8 * n
  · have hi : q / 8 < n := by omega
    have := bitsOf_at (bytesOf l n) (q / 8) (q % 8) _ (bytesOf_at hi) (by omega)
    rw [show 8 * (q / 8) + q % 8 = q by omega] at this
    rw [this, ← bitsB_at _ _ (by omega), (val8_list (chunk_len h hi)).2.2, List.getElem?_take, if_pos (by omega), List.getElem?_drop, show 8 * (q / 8) + q % 8 = q by omega]
  · rw [List.getElem?_eq_none (by rw [bitsOf_len, bytesOf_len]; omega), List.getElem?_eq_none (by omega)]
theorem bitsB_inj : ∀ m : Fin 256, ∀ n : Fin 256, bitsB m.val = bitsB n.val → m = n := by
  intro m n h
  have a := val8_bits m
  have b := val8_bits n
  rw [h, b] at a
  exact Fin.ext (by omega)
theorem byte_inj {x y : Int} (hx : 0 ≤ x ∧ x < 256) (hy : 0 ≤ y ∧ y < 256) (h : bitsB x.toNat = bitsB y.toNat) : x = y := by
  have := bitsB_inj ⟨x.toNat, by omega⟩ ⟨y.toNat, by omega⟩ h
  have := congrArg Fin.val this
  simp only at this
  omega
theorem bits_inj : ∀ {a b : List Int}, isB a → isB b → bitsOf a = bitsOf b → a = b
  | [], [], _, _, _ => rfl
  | [], y :: b, _, _, h => by
    have := congrArg List.length h
    rw [bitsOf_len, bitsOf_len] at this
    simp at this
  | x :: a, [], _, _, h => by
    have := congrArg List.length h
    rw [bitsOf_len, bitsOf_len] at this
    simp at this
  | x :: a, y :: b, ha, hb, h => by
    have h : bitsB x.toNat ++ bitsOf a = bitsB y.toNat ++ bitsOf b := h
    have := List.append_inj h (by rw [bitsB_len, bitsB_len])
    rw [byte_inj (ha x (List.mem_cons_self)) (hb y (List.mem_cons_self)) this.1, bits_inj (fun z hz => ha z (List.mem_cons_of_mem _ hz)) (fun z hz => hb z (List.mem_cons_of_mem _ hz)) this.2]
theorem bits_app (a b : List Int) : bitsOf (a ++ b) = bitsOf a ++ bitsOf b := by
  unfold bitsOf
  rw [List.flatMap_append]
theorem bits_sum4 {s : Nat} (h : s < 2 ^ 32) : bitsOf (sum4 s) = Crc.bits32 s := by
  rw [← bytes32 s h]
  exact bits_bytes (by simp [Crc.bits32])
/-- a block whose sum is right, in bits -/
theorem sum_bits {t : List Int} (h : t.drop 60 = sumB (t.take 60)) : bitsOf t = bitsOf (t.take 60) ++ Crc.bits32 (Crc.crc 0 (bitsOf (t.take 60))) := by
  conv => lhs; rw [← List.take_append_drop 60 t]
  rw [bits_app, h]
  unfold sumB
  rw [bits_sum4 (Crc.crc_lt (by decide) _)]
/-- two right ones that differ within 32 bits are alike -/
theorem block_eq {s t : List Int} (hs : isB s) (ht : isB t) (l1 : s.length = 64) (l2 : t.length = 64) (h1 : s.drop 60 = sumB (s.take 60)) (h2 : t.drop 60 = sumB (t.take 60)) {p : Nat} (hp : p ≤ 480)
    (hout : ∀ i, (i < p ∨ p + 32 ≤ i) → (bitsOf s).getD i false = (bitsOf t).getD i false) : s = t := by
  have e1 := sum_bits h1
  have e2 := sum_bits h2
  refine bits_inj hs ht ?_
  have hl : (bitsOf (s.take 60)).length = (bitsOf (t.take 60)).length := by
    rw [bitsOf_len, bitsOf_len, List.length_take, List.length_take, l1, l2]
  rw [e1, e2] at hout ⊢
  refine Crc.two_right hl rfl rfl (p := p) ?_ hout
  rw [bitsOf_len, List.length_take, l1]
  omega
theorem blockB_isB {a b : Int} {ds : List Int} (ha : 0 ≤ a ∧ a < 65536) (hb : 0 ≤ b ∧ b < 65536) (h : isB ds) : isB (blockB a b ds) := by
  unfold blockB
  intro x hx
  rw [List.mem_append] at hx
  rcases hx with hx | hx
  · exact hd4_isB ha hb h x hx
  · exact sumB_isB _ x hx
theorem blockB_right {a c : Nat} {ds : List Int} (hd : ds.length = 56) (ha : 0 < a ∧ a ≤ c) (hc : c ≤ 100) (first : Option Int) (hf : first = none ∨ first = some (c : Int)) :
    isBlk (blockB (a : Int) (c : Int) ds) (a : Int) first = true ∧ many (blockB (a : Int) (c : Int) ds) = (c : Int) ∧ ((blockB (a : Int) (c : Int) ds).drop 4).take 56 = ds := by
  have h60 : (hd4 (a : Int) (c : Int) ds).length = 60 := by rw [hd4_len, hd]
  have m1 : many (blockB (a : Int) (c : Int) ds) = (c : Int) := by
    unfold many blockB hd4
    show 256 * ((c : Int) / 256) + (c : Int) % 256 = c
    omega
  have m0 : 256 * (blockB (a : Int) (c : Int) ds).getD 0 0 + (blockB (a : Int) (c : Int) ds).getD 1 0 = (a : Int) := by
    unfold blockB hd4
    show 256 * ((a : Int) / 256) + (a : Int) % 256 = a
    omega
  have hdrop : (blockB (a : Int) (c : Int) ds).drop 60 = sumB (hd4 (a : Int) (c : Int) ds) := by
    unfold blockB
    rw [List.drop_left' h60]
  have htake : (blockB (a : Int) (c : Int) ds).take 60 = hd4 (a : Int) (c : Int) ds := by
    unfold blockB
    rw [List.take_left' h60]
  refine ⟨?_, m1, ?_⟩
  · unfold isBlk
    rw [m0, m1, hdrop, htake, decide_eq_true (p := (blockB (a : Int) (c : Int) ds).length = 64) (by rw [blockB_len, hd]), decide_eq_true (p := (sumB (hd4 (a : Int) (c : Int) ds)) = _) rfl, decide_eq_true (p := (a : Int) = a) rfl, decide_eq_true (p := (a : Int) ≤ c) (by omega)]
    rcases hf with rfl | rfl
    · rfl
    · simp
  · unfold blockB hd4
    show (ds ++ sumB _).take 56 = ds
    rw [List.take_left' hd]
end K48
namespace K48
open PySem PySem.Spec PyProof.Rows Z
local macro_rules | `(tactic| walk_at "z") => `(tactic| simp (disch := first | omega | assumption | decide | (apply IsP.l; assumption)) only [IFP, IFdiv, IFpow, IFT, IFtt, sh_int, sh_bool, sh_none, sh_L, Bool.and_self, Bool.true_and, Bool.and_true, flatD, List.all_cons, List.all_nil, List.length_cons, List.length_nil, decide_true, decide_false, Bool.not_false, Bool.not_true, eqv_int, eqv_L, evSs, evS, evE, evEs, evI, mE, msCons, msNil, Es.isNil, cV, cC, cGl, vOf, cOp, opD, addD, mulD, Z.intD, mulOk_l, mulOk_r, cNeg, cCmp, cmpD, ordD, cNot, cIte, cLst, cTup, cCall, cCallIO, cBi, biD, lenD, listD, tupleD, int1D, int2D, allD, sumD, intsD, boolsD, strD, cIsi, isiD, cPopv, cMe, meD, cRev, revD, sMk, seqD, cLenv, cIxv, cSlv, cIx, ixD, cSl, slD, tE, tV, tNot, truD, esCons, bCons, tCons, tsCons, pOne, iIt, iRng, iEnu, tupOf, itD, rangeD, sAsg, sAsgT, sSetix, sApp, sExt, sExpr, sRet, sRetV, sIf, rdV, rdR, ownAt, putO, put1, ioB_no, ioB_imm, ioB_own, ioB_gs, putT, putR, fz, Res.d, O.d, Slot.o,
  List.getElem?_cons_zero, List.getElem?_cons_succ, List.set_cons_zero, List.set_cons_succ, if_true, if_false, ite_true, ite_false, Bool.false_eq_true, reduceIte])
local macro_rules | `(tactic| walk_at "zs") => `(tactic| simp (disch := first | omega | assumption | decide | (apply IsP.l; assumption)) only [IFP, IFdiv, IFpow, IFT, IFtt, sh_int, sh_bool, sh_none, sh_L, Bool.and_self, Bool.true_and, Bool.and_true, flatD, List.all_cons, List.all_nil, List.length_cons, List.length_nil, decide_true, decide_false, Bool.not_false, Bool.not_true, eqv_int, eqv_L, evSs, evS, evE, evEs, evI, mE, msCons, msNil, Es.isNil, cV, cC, cGl, vOf, cOp, opD, addD, mulD, Z.intD, mulOk_l, mulOk_r, cNeg, cCmp, cmpD, ordD, cNot, cIte, cLst, cTup, cCall, cCallIO, cBi, biD, lenD, listD, tupleD, int1D, int2D, allD, sumD, intsD, boolsD, strD, cIsi, isiD, cPopv, cMe, meD, cRev, revD, sMk, seqD, cLenv, cIxv, cSlv, cIx, ixD, cSl, slD, tE, tV, tNot, truD, esCons, bCons, tCons, tsCons, pOne, iIt, iRng, iEnu, tupOf, itD, rangeD, sAsg, sAsgT, sSetix, sApp, sExt, sExpr, sRet, sRetV, sIf, rdV, rdR, ownAt, putO, put1, ioB_no, ioB_imm, ioB_own, ioB_gs, putT, putR, fz, Res.d, O.d, Slot.o,
  List.getElem?_cons_zero, List.getElem?_cons_succ, List.set_cons_zero, List.set_cons_succ, if_true, if_false, ite_true, ite_false, Bool.false_eq_true, reduceIte, *])
/-! ### the plain law: the whole file -/
theorem blocksTo_split (bs : List Int) (i : Nat) : ∀ n, i < n → ∃ rest, blocksTo bs n = blocksTo bs i ++ (blockB ((i : Int) + 1) (cntN bs.length : Nat) (blk (dataP bs) i) ++ rest)
  | 0, h => absurd h (by omega)
  | n + 1, h => by
    by_cases he : i = n
    · subst he
      exact ⟨[], by rw [blocksTo_succ, List.append_nil]⟩
    · obtain ⟨rest, hr⟩ := blocksTo_split bs i n (by omega)
      exact ⟨rest ++ blockB ((n : Int) + 1) (cntN bs.length : Nat) (blk (dataP bs) n), by rw [blocksTo_succ, hr]; simp only [List.append_assoc]⟩
theorem piece_blocks {bs : List Int} {i : Nat} (hi : i < cntN bs.length) (tail : List Int) : piece (blocks bs ++ tail) i = blockB ((i : Int) + 1) (cntN bs.length : Nat) (blk (dataP bs) i) := by
  obtain ⟨rest, hr⟩ := blocksTo_split bs i _ hi
  unfold piece blocks
  rw [hr, List.append_assoc, List.drop_left' (blocksTo_len i (by omega)), List.append_assoc, List.take_left' (by rw [blockB_len, blk_len hi])]
theorem blocks_len (bs : List Int) : (blocks bs).length = 64 * cntN bs.length := blocksTo_len _ (Nat.le_refl _)
theorem blocks_isB {bs : List Int} (h : isB bs) (hl : bs.length ≤ 5000) : isB (blocks bs) := by
  intro x hx
  unfold blocks blocksTo at hx
  obtain ⟨j, hj, hx⟩ := List.mem_flatMap.mp hx
  have hj := List.mem_range.mp hj
  have := cnt_ge bs.length
  exact blockB_isB (by omega) (by omega) (blk_isB (dataP_isB h) j) x hx
theorem right_piece {bs : List Int} (hl : bs.length ≤ 5000) {i : Nat} (hi : i < cntN bs.length) (tail : List Int) :
    isBlk (piece (blocks bs ++ tail) i) ((i : Int) + 1) (if i = 0 then none else some ((cntN bs.length : Nat) : Int)) = true ∧ many (piece (blocks bs ++ tail) i) = ((cntN bs.length : Nat) : Int) ∧ ((piece (blocks bs ++ tail) i).drop 4).take 56 = blk (dataP bs) i := by
  have hc : cntN bs.length ≤ 100 := by unfold cntN; omega
  have := blockB_right (a := i + 1) (c := cntN bs.length) (blk_len hi) (by omega) hc (if i = 0 then none else some ((cntN bs.length : Nat) : Int)) (by split <;> simp)
  rw [show ((i + 1 : Nat) : Int) = (i : Int) + 1 by omega] at this
  rw [piece_blocks hi]
  exact this
theorem right_blocks {bs : List Int} (hl : bs.length ≤ 5000) (tail : List Int) : Right (blocks bs ++ tail) (cntN bs.length) (cntN bs.length) := fun i hi => ⟨(right_piece hl hi tail).1, (right_piece hl hi tail).2.1⟩
theorem datas_take {bs : List Int} (hl : bs.length ≤ 5000) (tail : List Int) : ∀ m, m ≤ cntN bs.length → datas (blocks bs ++ tail) m = (dataP bs).take (56 * m)
  | 0, _ => by simp [datas]
  | m + 1, h => by
    rw [datas_succ, datas_take hl tail m (by omega), (right_piece hl (by omega) tail).2.2]
    unfold blk
    rw [show 56 * (m + 1) = 56 * m + 56 by omega, List.take_add]
theorem datas_blocks {bs : List Int} (hl : bs.length ≤ 5000) (tail : List Int) : datas (blocks bs ++ tail) (cntN bs.length) = dataP bs := by
  rw [datas_take hl tail _ (Nat.le_refl _), ← dataP_len, List.take_length]
theorem bits_drop : ∀ (a : List Int) (n : Nat), bitsOf (a.drop n) = (bitsOf a).drop (8 * n)
  | a, 0 => rfl
  | [], n + 1 => by simp [bitsOf]
  | x :: a, n + 1 => by
    show bitsOf (a.drop n) = (bitsB x.toNat ++ bitsOf a).drop (8 * (n + 1))
    rw [bits_drop a n, List.drop_append, List.drop_of_length_le (l := bitsB x.toNat) (by rw [bitsB_len]; omega), bitsB_len, show 8 * (n + 1) - 8 = 8 * n by omega, List.nil_append]
theorem bits_take : ∀ (a : List Int) (n : Nat), bitsOf (a.take n) = (bitsOf a).take (8 * n)
  | a, 0 => by simp [bitsOf]
  | [], n + 1 => by simp [bitsOf]
  | x :: a, n + 1 => by
    show bitsB x.toNat ++ bitsOf (a.take n) = (bitsB x.toNat ++ bitsOf a).take (8 * (n + 1))
    rw [bits_take a n, List.take_append, List.take_of_length_le (l := bitsB x.toNat) (by rw [bitsB_len]; omega), bitsB_len, show 8 * (n + 1) - 8 = 8 * n by omega]
theorem bits_piece (w : List Int) (m : Nat) : bitsOf (piece w m) = ((bitsOf w).drop (512 * m)).take 512 := by
  unfold piece
  rw [bits_take, bits_drop, show 8 * (64 * m) = 512 * m by omega]
theorem getD_some {w : List Int} {i : Nat} (h : i < w.length) : w[i]? = some (w.getD i 0) := by
  rw [List.getD_eq_getElem?_getD, List.getElem?_eq_getElem h]
  rfl
end K48
namespace K48
open PySem PySem.Spec PyProof.Rows Z
local macro_rules | `(tactic| walk_at "z") => `(tactic| simp (disch := first | omega | assumption | decide | (apply IsP.l; assumption)) only [IFP, IFdiv, IFpow, IFT, IFtt, sh_int, sh_bool, sh_none, sh_L, Bool.and_self, Bool.true_and, Bool.and_true, flatD, List.all_cons, List.all_nil, List.length_cons, List.length_nil, decide_true, decide_false, Bool.not_false, Bool.not_true, eqv_int, eqv_L, evSs, evS, evE, evEs, evI, mE, msCons, msNil, Es.isNil, cV, cC, cGl, vOf, cOp, opD, addD, mulD, Z.intD, mulOk_l, mulOk_r, cNeg, cCmp, cmpD, ordD, cNot, cIte, cLst, cTup, cCall, cCallIO, cBi, biD, lenD, listD, tupleD, int1D, int2D, allD, sumD, intsD, boolsD, strD, cIsi, isiD, cPopv, cMe, meD, cRev, revD, sMk, seqD, cLenv, cIxv, cSlv, cIx, ixD, cSl, slD, tE, tV, tNot, truD, esCons, bCons, tCons, tsCons, pOne, iIt, iRng, iEnu, tupOf, itD, rangeD, sAsg, sAsgT, sSetix, sApp, sExt, sExpr, sRet, sRetV, sIf, rdV, rdR, ownAt, putO, put1, ioB_no, ioB_imm, ioB_own, ioB_gs, putT, putR, fz, Res.d, O.d, Slot.o,
  List.getElem?_cons_zero, List.getElem?_cons_succ, List.set_cons_zero, List.set_cons_succ, if_true, if_false, ite_true, ite_false, Bool.false_eq_true, reduceIte])
local macro_rules | `(tactic| walk_at "zs") => `(tactic| simp (disch := first | omega | assumption | decide | (apply IsP.l; assumption)) only [IFP, IFdiv, IFpow, IFT, IFtt, sh_int, sh_bool, sh_none, sh_L, Bool.and_self, Bool.true_and, Bool.and_true, flatD, List.all_cons, List.all_nil, List.length_cons, List.length_nil, decide_true, decide_false, Bool.not_false, Bool.not_true, eqv_int, eqv_L, evSs, evS, evE, evEs, evI, mE, msCons, msNil, Es.isNil, cV, cC, cGl, vOf, cOp, opD, addD, mulD, Z.intD, mulOk_l, mulOk_r, cNeg, cCmp, cmpD, ordD, cNot, cIte, cLst, cTup, cCall, cCallIO, cBi, biD, lenD, listD, tupleD, int1D, int2D, allD, sumD, intsD, boolsD, strD, cIsi, isiD, cPopv, cMe, meD, cRev, revD, sMk, seqD, cLenv, cIxv, cSlv, cIx, ixD, cSl, slD, tE, tV, tNot, truD, esCons, bCons, tCons, tsCons, pOne, iIt, iRng, iEnu, tupOf, itD, rangeD, sAsg, sAsgT, sSetix, sApp, sExt, sExpr, sRet, sRetV, sIf, rdV, rdR, ownAt, putO, put1, ioB_no, ioB_imm, ioB_own, ioB_gs, putT, putR, fz, Res.d, O.d, Slot.o,
  List.getElem?_cons_zero, List.getElem?_cons_succ, List.set_cons_zero, List.set_cons_succ, if_true, if_false, ite_true, ite_false, Bool.false_eq_true, reduceIte, *])
/-! ### what data_of answers in each case of the law -/
theorem cnt_small {bs : List Int} (hl : bs.length ≤ 5000) : cntN bs.length ≤ 100 := by unfold cntN; omega
theorem v_whole (k : Nat) {bs : List Int} (h : isB bs) (hl : bs.length ≤ 5000) : run tb.T (k + 4) i_data_of none [.list (L (blocks bs))] = some (.imm (.tuple [.str "data", .list (L bs)]), none) := by
  have hr := right_blocks hl []
  have hd := datas_blocks hl []
  rw [List.append_nil] at hr hd
  have := data_some k (blocks bs) bs (blocks_isB h hl) hl hr hd
  rw [if_neg (by rw [blocks_len]; omega)] at this
  exact this
theorem isBlk_short {t : List Int} {n : Int} {c : Option Int} (h : t.length ≠ 64) : isBlk t n c = false := by
  unfold isBlk
  rw [decide_eq_false h, Bool.false_and, Bool.false_and]
end K48
namespace K48
open PySem PySem.Spec PyProof.Rows Z
local macro_rules | `(tactic| walk_at "z") => `(tactic| simp (disch := first | omega | assumption | decide | (apply IsP.l; assumption)) only [IFP, IFdiv, IFpow, IFT, IFtt, sh_int, sh_bool, sh_none, sh_L, Bool.and_self, Bool.true_and, Bool.and_true, flatD, List.all_cons, List.all_nil, List.length_cons, List.length_nil, decide_true, decide_false, Bool.not_false, Bool.not_true, eqv_int, eqv_L, evSs, evS, evE, evEs, evI, mE, msCons, msNil, Es.isNil, cV, cC, cGl, vOf, cOp, opD, addD, mulD, Z.intD, mulOk_l, mulOk_r, cNeg, cCmp, cmpD, ordD, cNot, cIte, cLst, cTup, cCall, cCallIO, cBi, biD, lenD, listD, tupleD, int1D, int2D, allD, sumD, intsD, boolsD, strD, cIsi, isiD, cPopv, cMe, meD, cRev, revD, sMk, seqD, cLenv, cIxv, cSlv, cIx, ixD, cSl, slD, tE, tV, tNot, truD, esCons, bCons, tCons, tsCons, pOne, iIt, iRng, iEnu, tupOf, itD, rangeD, sAsg, sAsgT, sSetix, sApp, sExt, sExpr, sRet, sRetV, sIf, rdV, rdR, ownAt, putO, put1, ioB_no, ioB_imm, ioB_own, ioB_gs, putT, putR, fz, Res.d, O.d, Slot.o,
  List.getElem?_cons_zero, List.getElem?_cons_succ, List.set_cons_zero, List.set_cons_succ, if_true, if_false, ite_true, ite_false, Bool.false_eq_true, reduceIte])
local macro_rules | `(tactic| walk_at "zs") => `(tactic| simp (disch := first | omega | assumption | decide | (apply IsP.l; assumption)) only [IFP, IFdiv, IFpow, IFT, IFtt, sh_int, sh_bool, sh_none, sh_L, Bool.and_self, Bool.true_and, Bool.and_true, flatD, List.all_cons, List.all_nil, List.length_cons, List.length_nil, decide_true, decide_false, Bool.not_false, Bool.not_true, eqv_int, eqv_L, evSs, evS, evE, evEs, evI, mE, msCons, msNil, Es.isNil, cV, cC, cGl, vOf, cOp, opD, addD, mulD, Z.intD, mulOk_l, mulOk_r, cNeg, cCmp, cmpD, ordD, cNot, cIte, cLst, cTup, cCall, cCallIO, cBi, biD, lenD, listD, tupleD, int1D, int2D, allD, sumD, intsD, boolsD, strD, cIsi, isiD, cPopv, cMe, meD, cRev, revD, sMk, seqD, cLenv, cIxv, cSlv, cIx, ixD, cSl, slD, tE, tV, tNot, truD, esCons, bCons, tCons, tsCons, pOne, iIt, iRng, iEnu, tupOf, itD, rangeD, sAsg, sAsgT, sSetix, sApp, sExt, sExpr, sRet, sRetV, sIf, rdV, rdR, ownAt, putO, put1, ioB_no, ioB_imm, ioB_own, ioB_gs, putT, putR, fz, Res.d, O.d, Slot.o,
  List.getElem?_cons_zero, List.getElem?_cons_succ, List.set_cons_zero, List.set_cons_succ, if_true, if_false, ite_true, ite_false, Bool.false_eq_true, reduceIte, *])
/-! ### numbers as bytes -/
def nb (n : Nat) : List Int := if h : n ≤ 127 then [(n : Int)] else ((128 + n % 128 : Nat) : Int) :: nb (n / 128)
termination_by n
decreasing_by omega
theorem nb_small {n : Nat} (h : n ≤ 127) : nb n = [(n : Int)] := by
  rw [nb, dif_pos h]
theorem nb_big {n : Nat} (h : ¬ n ≤ 127) : nb n = ((128 + n % 128 : Nat) : Int) :: nb (n / 128) := by
  rw [nb, dif_neg h]
theorem nb_pos (n : Nat) : 0 < (nb n).length := by
  by_cases h : n ≤ 127
  · rw [nb_small h]
    exact Nat.one_pos
  · rw [nb_big h]
    exact Nat.succ_pos _
theorem nb_len : ∀ n : Nat, (nb n).length ≤ n + 1 := by
  intro n
  induction n using Nat.strongRecOn with
  | _ n ih =>
    by_cases h : n ≤ 127
    · rw [nb_small h]
      simp
    · rw [nb_big h, List.length_cons]
      have := ih (n / 128) (by omega)
      omega
theorem nb_isB : ∀ n : Nat, isB (nb n) := by
  intro n
  induction n using Nat.strongRecOn with
  | _ n ih =>
    by_cases h : n ≤ 127
    · rw [nb_small h]
      intro b hb
      rw [List.mem_singleton] at hb
      omega
    · rw [nb_big h]
      intro b hb
      rcases List.mem_cons.mp hb with hb | hb
      · omega
      · exact ih (n / 128) (by omega) b hb
theorem div128 (m : Nat) : ((m : Nat) : Int).fdiv 128 = ((m / 128 : Nat) : Int) := by
  rw [fd _ (by decide)]
  omega
theorem mod128 (m : Nat) : (128 : Int) + ((m : Nat) : Int).fmod 128 = ((128 + m % 128 : Nat) : Int) := by
  rw [fm _ (by decide)]
  omega
theorem f_number_bytes (k : Nat) (n : Nat) (hn : n < 1000000) : run tb.T (k + 1) i_number_bytes none [.int (n : Nat)] = some (.own (.lst (L (nb n))), none) := by
  show runD (run tb.T k) 2 b_number_bytes none [.int (n : Nat)] = _
  refine runD_of ?_
  show W (evSs _ b_number_bytes [.imm (.int (n : Nat)), .no]) _
  have hs := szl
  have hl := nb_len n
  unfold b_number_bytes
  refine W_next (env' := [.imm (.int (n : Nat)), .own (.lst (L []))]) (by walk_at "z" <;> rfl) ?_
  refine W_cons ?_
  refine W_while (fun m e => ∃ acc : List Int, e = [.imm (.int (m : Nat)), .own (.lst (L acc))] ∧ acc ++ nb m = nb n) n ⟨[], rfl, rfl⟩ ?_
  rintro m e ⟨acc, rfl, ha⟩
  have hla := congrArg List.length ha
  rw [List.length_append] at hla
  have hp := nb_pos m
  have hL := L_len acc
  by_cases h : m ≤ 127
  · rw [nb_small h] at ha
    have d1 : decide ((127 : Int) < (m : Nat)) = false := decide_eq_false (by omega)
    refine W.eq (a := false) (e := [.imm (.int (m : Nat)), .own (.lst (L acc))]) (by clear ha hla; walk_at "zs" <;> rfl) ?_
    refine W_ret (env' := [.imm (.int (m : Nat)), .imm (.list (L acc))]) ?_ ⟨rfl, rfl⟩
    have e : L acc ++ [PyData.int (m : Nat)] = L (nb n) := by rw [← ha]; exact L_app acc [(m : Int)]
    have e2 : [PyData.int (m : Nat)].length = 1 := rfl
    walk_at "z"
    rw [e]
  · rw [nb_big h] at ha
    have d1 : decide ((127 : Int) < (m : Nat)) = true := decide_eq_true (by omega)
    refine W.eq (a := true) (e := [.imm (.int (m : Nat)), .own (.lst (L acc))]) (by clear ha hla; walk_at "zs" <;> rfl) ?_
    show W (evSs _ l_number_bytes_1 _) _
    unfold l_number_bytes_1
    refine W_next (env' := [.imm (.int (m : Nat)), .own (.lst (L (acc ++ [((128 + m % 128 : Nat) : Int)])))]) ?_ ?_
    · have e : L acc ++ [PyData.int ((128 + m % 128 : Nat) : Int)] = L (acc ++ [((128 + m % 128 : Nat) : Int)]) := L_app acc [((128 + m % 128 : Nat) : Int)]
      walk_at "z"
      rw [mod128, e]
    · refine W_next (env' := [.imm (.int ((m / 128 : Nat) : Int)), .own (.lst (L (acc ++ [((128 + m % 128 : Nat) : Int)])))]) ?_ (W_nil ⟨m / 128, by omega, _, rfl, by rw [List.append_assoc]; exact ha⟩)
      walk_at "z"
      rw [div128]
end K48
namespace K48
open PySem PySem.Spec PyProof.Rows Z
local macro_rules | `(tactic| walk_at "z") => `(tactic| simp (disch := first | omega | assumption | decide | (apply IsP.l; assumption)) only [IFP, IFdiv, IFpow, IFT, IFtt, sh_int, sh_bool, sh_none, sh_L, Bool.and_self, Bool.true_and, Bool.and_true, flatD, List.all_cons, List.all_nil, List.length_cons, List.length_nil, decide_true, decide_false, Bool.not_false, Bool.not_true, eqv_int, eqv_L, evSs, evS, evE, evEs, evI, mE, msCons, msNil, Es.isNil, cV, cC, cGl, vOf, cOp, opD, addD, mulD, Z.intD, mulOk_l, mulOk_r, cNeg, cCmp, cmpD, ordD, cNot, cIte, cLst, cTup, cCall, cCallIO, cBi, biD, lenD, listD, tupleD, int1D, int2D, allD, sumD, intsD, boolsD, strD, cIsi, isiD, cPopv, cMe, meD, cRev, revD, sMk, seqD, cLenv, cIxv, cSlv, cIx, ixD, cSl, slD, tE, tV, tNot, truD, esCons, bCons, tCons, tsCons, pOne, iIt, iRng, iEnu, tupOf, itD, rangeD, sAsg, sAsgT, sSetix, sApp, sExt, sExpr, sRet, sRetV, sIf, rdV, rdR, ownAt, putO, put1, ioB_no, ioB_imm, ioB_own, ioB_gs, putT, putR, fz, Res.d, O.d, Slot.o,
  List.getElem?_cons_zero, List.getElem?_cons_succ, List.set_cons_zero, List.set_cons_succ, if_true, if_false, ite_true, ite_false, Bool.false_eq_true, reduceIte])
local macro_rules | `(tactic| walk_at "zs") => `(tactic| simp (disch := first | omega | assumption | decide | (apply IsP.l; assumption)) only [IFP, IFdiv, IFpow, IFT, IFtt, sh_int, sh_bool, sh_none, sh_L, Bool.and_self, Bool.true_and, Bool.and_true, flatD, List.all_cons, List.all_nil, List.length_cons, List.length_nil, decide_true, decide_false, Bool.not_false, Bool.not_true, eqv_int, eqv_L, evSs, evS, evE, evEs, evI, mE, msCons, msNil, Es.isNil, cV, cC, cGl, vOf, cOp, opD, addD, mulD, Z.intD, mulOk_l, mulOk_r, cNeg, cCmp, cmpD, ordD, cNot, cIte, cLst, cTup, cCall, cCallIO, cBi, biD, lenD, listD, tupleD, int1D, int2D, allD, sumD, intsD, boolsD, strD, cIsi, isiD, cPopv, cMe, meD, cRev, revD, sMk, seqD, cLenv, cIxv, cSlv, cIx, ixD, cSl, slD, tE, tV, tNot, truD, esCons, bCons, tCons, tsCons, pOne, iIt, iRng, iEnu, tupOf, itD, rangeD, sAsg, sAsgT, sSetix, sApp, sExt, sExpr, sRet, sRetV, sIf, rdV, rdR, ownAt, putO, put1, ioB_no, ioB_imm, ioB_own, ioB_gs, putT, putR, fz, Res.d, O.d, Slot.o,
  List.getElem?_cons_zero, List.getElem?_cons_succ, List.set_cons_zero, List.set_cons_succ, if_true, if_false, ite_true, ite_false, Bool.false_eq_true, reduceIte, *])
/-! ### plain values as bytes -/
abbrev sgS : Str := "\n abcdefghijklmnopqrstuvwxyzABCDEFGHIJKLMNOPQRSTUVWXYZ0123456789(),=!<+-."
def SG : List Nat := sgS.cps.toList
def sgI (c : Nat) : Int := ((SG.idxOf c : Nat) : Int)
theorem sg_all : SG.all (fun c => Builtin.Str.occurrences sgS ⟨#[c]⟩ 0 sgS.length 1 == [SG.idxOf c] && SG[SG.idxOf c]? == some c && decide (SG.idxOf c < 73)) = true := by decide +kernel
theorem sg_len : SG.length = 73 := by decide +kernel
theorem sg_of {c : Nat} (h : c ∈ SG) : Builtin.Str.occurrences sgS ⟨#[c]⟩ 0 sgS.length 1 = [SG.idxOf c] ∧ SG[SG.idxOf c]? = some c ∧ SG.idxOf c < 73 := by
  have := List.all_eq_true.mp sg_all c h
  rw [Bool.and_eq_true, Bool.and_eq_true] at this
  exact ⟨eq_of_beq this.1.1, eq_of_beq this.1.2, of_decide_eq_true this.2⟩
theorem sg_me {c : Nat} (h : c ∈ SG) : meD .index (.str sgS) (.str ⟨#[c]⟩) = some (.imm (.int (sgI c))) := by
  show (match Builtin.Str.occurrences sgS ⟨#[c]⟩ 0 sgS.length 1 with | i :: _ => some (Res.imm (.int (i : Nat))) | [] => none) = _
  rw [(sg_of h).1]
  rfl
def zig (i : Int) : Nat := if 0 ≤ i then (2 * i).toNat else (-2 * i - 1).toNat
mutual
def enc : D → List Int
  | .tuple xs => 2 :: (nb xs.length ++ encs xs)
  | .str s => 1 :: (nb s.length ++ s.cps.toList.map sgI)
  | .int i => 0 :: nb (zig i)
  | _ => []
def encs : List D → List Int
  | [] => []
  | x :: xs => enc x ++ encs xs
end
theorem encs_app : ∀ a b : List D, encs (a ++ b) = encs a ++ encs b
  | [], b => by rw [encs]; rfl
  | x :: a, b => by rw [List.cons_append, encs, encs, encs_app a b, List.append_assoc]
inductive Pl : Nat → D → Prop
  | int (n : Nat) (i : Int) : -100000 ≤ i → i ≤ 100000 → Pl n (.int i)
  | str (n : Nat) (s : Str) : (∀ c ∈ s.cps.toList, c ∈ SG) → Pl n (.str s)
  | tup (n : Nat) (xs : List D) : (∀ x ∈ xs, Pl n x) → Pl (n + 1) (.tuple xs)
theorem enc_pos {n : Nat} {d : D} (h : Pl n d) : 0 < (enc d).length := by
  cases h <;> (rw [enc]; exact Nat.succ_pos _)
theorem encs_ge {n : Nat} : ∀ {xs : List D}, (∀ x ∈ xs, Pl n x) → xs.length ≤ (encs xs).length
  | [], _ => Nat.zero_le _
  | x :: xs, h => by
    rw [encs, List.length_append, List.length_cons]
    have a := enc_pos (h x List.mem_cons_self)
    have b := encs_ge (xs := xs) fun y hy => h y (List.mem_cons_of_mem _ hy)
    omega
theorem sgI_isB {l : List Nat} (h : ∀ c ∈ l, c ∈ SG) : isB (l.map sgI) := by
  intro b hb
  obtain ⟨c, hc, rfl⟩ := List.mem_map.mp hb
  have := (sg_of (h c hc)).2.2
  unfold sgI
  omega
theorem isB_app {a b : List Int} (ha : isB a) (hb : isB b) : isB (a ++ b) := fun x hx => by
  rcases List.mem_append.mp hx with hx | hx
  · exact ha x hx
  · exact hb x hx
theorem isB_cons {a : Int} {b : List Int} (ha : 0 ≤ a ∧ a < 256) (hb : isB b) : isB (a :: b) := fun x hx => by
  rcases List.mem_cons.mp hx with hx | hx
  · rw [hx]; exact ha
  · exact hb x hx
theorem encs_isB : ∀ {xs : List D}, (∀ x ∈ xs, isB (enc x)) → isB (encs xs)
  | [], _ => by rw [encs]; intro x hx; cases hx
  | x :: xs, h => by
    rw [encs]
    exact isB_app (h x List.mem_cons_self) (encs_isB fun y hy => h y (List.mem_cons_of_mem _ hy))
theorem enc_isB : ∀ (n : Nat) {d : D}, Pl n d → isB (enc d)
  | n, _, .int _ i h1 h2 => by
    rw [enc]
    exact isB_cons (by decide) (nb_isB _)
  | n, _, .str _ s h => by
    rw [enc]
    exact isB_cons (by decide) (isB_app (nb_isB _) (sgI_isB h))
  | n + 1, _, .tup _ xs h => by
    rw [enc]
    exact isB_cons (by decide) (isB_app (nb_isB _) (encs_isB fun x hx => enc_isB n (h x hx)))
theorem zig_lt {i : Int} (h1 : -100000 ≤ i) (h2 : i ≤ 100000) : zig i < 1000000 := by
  unfold zig
  split <;> omega
def chI : D → D
  | .str t => .int (sgI (t.cps.toList.headD 0))
  | d => d
theorem chI_map (l : List Nat) : (l.map fun c => PyData.str ⟨#[c]⟩).map chI = L (l.map sgI) := by
  unfold L
  rw [List.map_map, List.map_map]
  rfl
theorem slen (s : Str) : s.cps.toList.length = s.length := Array.length_toList
/-! the law's own bytes -/
theorem zigP {i : Int} (h : 0 ≤ i) : (2 : Int) * i = ((zig i : Nat) : Int) := by
  unfold zig
  rw [if_pos h]
  omega
theorem zigN {i : Int} (h : ¬ 0 ≤ i) : (-2 : Int) * i - 1 = ((zig i : Nat) : Int) := by
  unfold zig
  rw [if_neg h]
  omega
end K48
namespace K48
open PySem PySem.Spec PyProof.Rows Z
local macro_rules | `(tactic| walk_at "z") => `(tactic| simp (disch := first | omega | assumption | decide | (apply IsP.l; assumption)) only [IFP, IFdiv, IFpow, IFT, IFtt, sh_int, sh_bool, sh_none, sh_L, Bool.and_self, Bool.true_and, Bool.and_true, flatD, List.all_cons, List.all_nil, List.length_cons, List.length_nil, decide_true, decide_false, Bool.not_false, Bool.not_true, eqv_int, eqv_L, evSs, evS, evE, evEs, evI, mE, msCons, msNil, Es.isNil, cV, cC, cGl, vOf, cOp, opD, addD, mulD, Z.intD, mulOk_l, mulOk_r, cNeg, cCmp, cmpD, ordD, cNot, cIte, cLst, cTup, cCall, cCallIO, cBi, biD, lenD, listD, tupleD, int1D, int2D, allD, sumD, intsD, boolsD, strD, cIsi, isiD, cPopv, cMe, meD, cRev, revD, sMk, seqD, cLenv, cIxv, cSlv, cIx, ixD, cSl, slD, tE, tV, tNot, truD, esCons, bCons, tCons, tsCons, pOne, iIt, iRng, iEnu, tupOf, itD, rangeD, sAsg, sAsgT, sSetix, sApp, sExt, sExpr, sRet, sRetV, sIf, rdV, rdR, ownAt, putO, put1, ioB_no, ioB_imm, ioB_own, ioB_gs, putT, putR, fz, Res.d, O.d, Slot.o,
  List.getElem?_cons_zero, List.getElem?_cons_succ, List.set_cons_zero, List.set_cons_succ, if_true, if_false, ite_true, ite_false, Bool.false_eq_true, reduceIte])
local macro_rules | `(tactic| walk_at "zs") => `(tactic| simp (disch := first | omega | assumption | decide | (apply IsP.l; assumption)) only [IFP, IFdiv, IFpow, IFT, IFtt, sh_int, sh_bool, sh_none, sh_L, Bool.and_self, Bool.true_and, Bool.and_true, flatD, List.all_cons, List.all_nil, List.length_cons, List.length_nil, decide_true, decide_false, Bool.not_false, Bool.not_true, eqv_int, eqv_L, evSs, evS, evE, evEs, evI, mE, msCons, msNil, Es.isNil, cV, cC, cGl, vOf, cOp, opD, addD, mulD, Z.intD, mulOk_l, mulOk_r, cNeg, cCmp, cmpD, ordD, cNot, cIte, cLst, cTup, cCall, cCallIO, cBi, biD, lenD, listD, tupleD, int1D, int2D, allD, sumD, intsD, boolsD, strD, cIsi, isiD, cPopv, cMe, meD, cRev, revD, sMk, seqD, cLenv, cIxv, cSlv, cIx, ixD, cSl, slD, tE, tV, tNot, truD, esCons, bCons, tCons, tsCons, pOne, iIt, iRng, iEnu, tupOf, itD, rangeD, sAsg, sAsgT, sSetix, sApp, sExt, sExpr, sRet, sRetV, sIf, rdV, rdR, ownAt, putO, put1, ioB_no, ioB_imm, ioB_own, ioB_gs, putT, putR, fz, Res.d, O.d, Slot.o,
  List.getElem?_cons_zero, List.getElem?_cons_succ, List.set_cons_zero, List.set_cons_succ, if_true, if_false, ite_true, ite_false, Bool.false_eq_true, reduceIte, *])
/-! ### bytes_of -/
theorem encs_ge' : ∀ {xs : List D}, (∀ x ∈ xs, ∃ n, Pl n x) → xs.length ≤ (encs xs).length
  | [], _ => Nat.zero_le _
  | x :: xs, h => by
    rw [encs, List.length_append, List.length_cons]
    obtain ⟨n, hn⟩ := h x List.mem_cons_self
    have a := enc_pos hn
    have b := encs_ge' (xs := xs) fun y hy => h y (List.mem_cons_of_mem _ hy)
    omega
theorem list_last {α : Type} (q : List α) : q = [] ∨ ∃ q0 y, q = q0 ++ [y] := by
  rcases List.eq_nil_or_concat q with h | ⟨l, b, h⟩
  · exact .inl h
  · exact .inr ⟨l, b, by simpa using h⟩
theorem bo_comp (k : Nat) (d : D) (acc : List Int) (q : List D) (s : Str) (h : ∀ c ∈ s.cps.toList, c ∈ SG) (hz : s.length ≤ 5000) :
    cComp (evE (run tb.T k) e_bytes_of_1).e 4 (evI (run tb.T k) q_bytes_of_1) (fun env => some (true, env)) [.imm d, .own (.lst (L acc)), .own (.lst q), .imm (.str s), .no] = some (Res.own (O.lst (L (s.cps.toList.map sgI))), [.imm d, .own (.lst (L acc)), .own (.lst q), .imm (.str s), .no]) := by
  have hs := szl
  refine comp_mapY (ds := s.cps.toList.map fun c => PyData.str ⟨#[c]⟩) (s := .no) chI ?_ rfl rfl (by rw [List.length_map, slen]; omega) (fun d2 hd => ?_) (chI_map _)
  · unfold q_bytes_of_1
    walk_at "z" <;> rfl
  · obtain ⟨c, hc, rfl⟩ := List.mem_map.mp hd
    have hm := sg_me (h c hc)
    show fz ((evE (run tb.T k) e_bytes_of_1).e [.imm d, .own (.lst (L acc)), .own (.lst q), .imm (.str s), .imm (.str ⟨#[c]⟩)]) = some (.int (sgI c), [.imm d, .own (.lst (L acc)), .own (.lst q), .imm (.str s), .imm (.str ⟨#[c]⟩)])
    unfold e_bytes_of_1
    show fz (match meD .index (.str sgS) (.str ⟨#[c]⟩) with | none => none | some r => some (r, [Slot.imm d, .own (.lst (L acc)), .own (.lst q), .imm (.str s), .imm (.str ⟨#[c]⟩)])) = _
    rw [hm]
    rfl
theorem f_bytes_of (n : Nat) (d : D) (h : Pl n d) (hl : (enc d).length ≤ 5000) (k : Nat) : run tb.T (k + 2) i_bytes_of none [d] = some (.own (.lst (L (enc d))), none) := by
  have hs := szl
  show runD (run tb.T (k + 1)) 5 b_bytes_of none [d] = _
  refine runD_of ?_
  show W (evSs _ b_bytes_of [.imm d, .no, .no, .no, .no]) _
  unfold b_bytes_of
  refine W_next (env' := [.imm d, .own (.lst (L [])), .no, .no, .no]) (by walk_at "z" <;> rfl) ?_
  refine W_next (env' := [.imm d, .own (.lst (L [])), .own (.lst [d]), .no, .no]) (by walk_at "z" <;> rfl) ?_
  refine W_cons ?_
  refine W_while (fun m e => ∃ (acc : List Int) (q : List D) (x3 : Option D), e = [.imm d, .own (.lst (L acc)), .own (.lst q), gs x3, .no] ∧ (∀ x ∈ q, ∃ n, Pl n x) ∧ acc ++ encs q.reverse = enc d ∧ m = (encs q.reverse).length) (encs [d].reverse).length ⟨[], [d], none, rfl, ?_, ?_, rfl⟩ ?_
  · intro x hx
    rw [List.mem_singleton] at hx
    exact ⟨n, by rw [hx]; exact h⟩
  · simp [encs]
  rintro m e ⟨acc, q, x3, rfl, hq, ha, hm⟩
  rcases list_last q with rfl | ⟨q0, y, rfl⟩
  · refine W.eq (a := false) (e := [.imm d, .own (.lst (L acc)), .own (.lst []), gs x3, .no]) (by walk_at "z" <;> rfl) ?_
    have : acc = enc d := by simpa [encs] using ha
    subst this
    refine W_ret (env' := [.imm d, .no, .own (.lst []), gs x3, .no]) (by walk_at "z" <;> rfl) ⟨rfl, by cases x3 <;> rfl⟩
  · refine W.eq (a := true) (e := [.imm d, .own (.lst (L acc)), .own (.lst (q0 ++ [y])), gs x3, .no]) ?_ ?_
    · have : (!(q0 ++ [y]).isEmpty) = true := by cases q0 <;> rfl
      walk_at "z"
      rw [this]
    show W (evSs _ l_bytes_of_1 _) _
    unfold l_bytes_of_1
    have hrev : (q0 ++ [y]).reverse = y :: q0.reverse := by simp
    rw [hrev, encs] at ha hm
    rw [List.length_append] at hm
    have hal := congrArg List.length ha
    rw [List.length_append, List.length_append] at hal
    have hq0 : ∀ x ∈ q0, ∃ n, Pl n x := fun x hx => hq x (List.mem_append_left _ hx)
    obtain ⟨ny, hy⟩ := hq y (by simp)
    have hpos := enc_pos hy
    have hlq := encs_ge' (xs := q0.reverse) fun x hx => hq0 x (by simpa using hx)
    rw [List.length_reverse] at hlq
    refine W_next (env' := [.imm d, .own (.lst (L acc)), .own (.lst q0), .imm y, .no]) ?_ ?_
    · have e1 : (q0 ++ [y])[(q0 ++ [y]).length - 1]? = some y := by simp
      have e2 : (q0 ++ [y]).dropLast = q0 := by simp
      generalize q0 ++ [y] = qq at e1 e2 ⊢
      walk_at "z"
      rw [e1]
      walk_at "z"
      rw [e2]
    have hL := L_len acc
    cases hy with
    | int _ i h1 h2 =>
      have hz := zig_lt h1 h2
      have hn := f_number_bytes k (zig i) hz
      rw [enc] at ha hal hm hpos
      rw [List.length_cons] at hal hm
      have hL2 := L_len (nb (zig i))
      have e : [PyData.int 0] ++ L (nb (zig i)) = L (0 :: nb (zig i)) := rfl
      have e4 : L acc ++ L (0 :: nb (zig i)) = L (acc ++ 0 :: nb (zig i)) := L_app _ _
      have e5 : (L acc).length + (L (0 :: nb (zig i))).length ≤ sizeLine := by rw [L_len, L_len, List.length_cons]; omega
      refine W_cons (W_if (k := false) (env' := [.imm d, .own (.lst (L acc)), .own (.lst q0), .imm (.int i), .no]) (by walk_at "z" <;> rfl) (fun z => nomatch z) (fun _ => ?_))
      refine W_cons (W_if (k := false) (env' := [.imm d, .own (.lst (L acc)), .own (.lst q0), .imm (.int i), .no]) (by walk_at "z" <;> rfl) (fun z => nomatch z) (fun _ => ?_))
      refine W_next (env' := [.imm d, .own (.lst (L (acc ++ 0 :: nb (zig i)))), .own (.lst q0), .imm (.int i), .no]) ?_ (W_nil (W_nil (W_nil ⟨_, ?_, _, _, some (.int i), rfl, hq0, ?_, rfl⟩)))
      · by_cases h0 : 0 ≤ i
        · have d0 : decide (0 ≤ i) = true := decide_eq_true h0
          have z := zigP h0
          walk_at "z"
          rw [d0]
          walk_at "z"
          rw [z, hn]
          walk_at "z"
          rw [e]
          walk_at "z"
          rw [e4]
        · have d0 : decide (0 ≤ i) = false := decide_eq_false h0
          have z := zigN h0
          walk_at "z"
          rw [d0]
          walk_at "z"
          rw [z, hn]
          walk_at "z"
          rw [e]
          walk_at "z"
          rw [e4]
      · omega
      · rw [List.append_assoc]
        exact ha
    | str _ s hc =>
      rw [enc] at ha hal hm hpos
      rw [List.length_cons, List.length_append, List.length_map, slen] at hal hm
      have hn := f_number_bytes k s.length (by omega)
      have hL2 := L_len (nb s.length)
      have e : [PyData.int 1] ++ L (nb s.length) = L (1 :: nb s.length) := rfl
      have e4 : L acc ++ L (1 :: nb s.length) = L (acc ++ 1 :: nb s.length) := L_app _ _
      have e5 : (L acc).length + (L (1 :: nb s.length)).length ≤ sizeLine := by rw [L_len, L_len, List.length_cons]; omega
      refine W_cons (W_if (k := false) (env' := [.imm d, .own (.lst (L acc)), .own (.lst q0), .imm (.str s), .no]) (by walk_at "z" <;> rfl) (fun z => nomatch z) (fun _ => ?_))
      refine W_cons (W_if (k := true) (env' := [.imm d, .own (.lst (L acc)), .own (.lst q0), .imm (.str s), .no]) (by walk_at "z" <;> rfl) (fun _ => ?_) (fun z => nomatch z))
      refine W_next (env' := [.imm d, .own (.lst (L (acc ++ 1 :: nb s.length))), .own (.lst q0), .imm (.str s), .no]) ?_ ?_
      · walk_at "z"
        rw [hn]
        walk_at "z"
        rw [e]
        walk_at "z"
        rw [e4]
      have hcc := bo_comp (k + 1) d (acc ++ 1 :: nb s.length) q0 s hc (by omega)
      refine W_next (env' := [.imm d, .own (.lst (L (acc ++ 1 :: nb s.length ++ s.cps.toList.map sgI))), .own (.lst q0), .imm (.str s), .no]) ?_ (W_nil (W_nil (W_nil ⟨_, ?_, _, _, some (.str s), rfl, hq0, ?_, rfl⟩)))
      · have e6 : L (acc ++ 1 :: nb s.length) ++ L (s.cps.toList.map sgI) = L (acc ++ 1 :: nb s.length ++ s.cps.toList.map sgI) := L_app _ _
        have e7 : (L (acc ++ 1 :: nb s.length)).length + (L (s.cps.toList.map sgI)).length ≤ sizeLine := by
          rw [L_len, L_len, List.length_append, List.length_cons, List.length_map, slen]
          omega
        generalize L (s.cps.toList.map sgI) = cs at hcc e6 e7
        generalize L (acc ++ 1 :: nb s.length) = as at hcc e6 e7 ⊢
        walk_at "z"
        rw [hcc]
        walk_at "z"
        rw [e6]
      · omega
      · rw [List.append_assoc, List.append_assoc]
        simpa using ha
    | tup ny xs hxs =>
      rw [enc] at ha hal hm hpos
      rw [List.length_cons, List.length_append] at hal hm
      have hge := encs_ge hxs
      have hn := f_number_bytes k xs.length (by omega)
      have hL2 := L_len (nb xs.length)
      have e : [PyData.int 2] ++ L (nb xs.length) = L (2 :: nb xs.length) := rfl
      have e4 : L acc ++ L (2 :: nb xs.length) = L (acc ++ 2 :: nb xs.length) := L_app _ _
      have e5 : (L acc).length + (L (2 :: nb xs.length)).length ≤ sizeLine := by rw [L_len, L_len, List.length_cons]; omega
      refine W_cons (W_if (k := true) (env' := [.imm d, .own (.lst (L acc)), .own (.lst q0), .imm (.tuple xs), .no]) (by walk_at "z" <;> rfl) (fun _ => ?_) (fun z => nomatch z))
      refine W_next (env' := [.imm d, .own (.lst (L (acc ++ 2 :: nb xs.length))), .own (.lst q0), .imm (.tuple xs), .no]) ?_ ?_
      · walk_at "z"
        rw [hn]
        walk_at "z"
        rw [e]
        walk_at "z"
        rw [e4]
      refine W_next (env' := [.imm d, .own (.lst (L (acc ++ 2 :: nb xs.length))), .own (.lst (q0 ++ xs.reverse)), .imm (.tuple xs), .no]) ?_ (W_nil (W_nil ⟨_, ?_, _, _, some (.tuple xs), rfl, ?_, ?_, rfl⟩))
      · have e8 : q0.length + xs.reverse.length ≤ sizeLine := by rw [List.length_reverse]; omega
        walk_at "z"
      · rw [List.reverse_append, List.reverse_reverse, encs_app, List.length_append]
        omega
      · intro x hx
        rcases List.mem_append.mp hx with hx | hx
        · exact hq0 x hx
        · exact ⟨ny, hxs x (by simpa using hx)⟩
      · rw [List.reverse_append, List.reverse_reverse, encs_app, List.append_assoc]
        simpa using ha
end K48
namespace K48
open PySem PySem.Spec PyProof.Rows Z
local macro_rules | `(tactic| walk_at "z") => `(tactic| simp (disch := first | omega | assumption | decide | (apply IsP.l; assumption)) only [IFP, IFdiv, IFpow, IFT, IFtt, sh_int, sh_bool, sh_none, sh_L, Bool.and_self, Bool.true_and, Bool.and_true, flatD, List.all_cons, List.all_nil, List.length_cons, List.length_nil, decide_true, decide_false, Bool.not_false, Bool.not_true, eqv_int, eqv_L, evSs, evS, evE, evEs, evI, mE, msCons, msNil, Es.isNil, cV, cC, cGl, vOf, cOp, opD, addD, mulD, Z.intD, mulOk_l, mulOk_r, cNeg, cCmp, cmpD, ordD, cNot, cIte, cLst, cTup, cCall, cCallIO, cBi, biD, lenD, listD, tupleD, int1D, int2D, allD, sumD, intsD, boolsD, strD, cIsi, isiD, cPopv, cMe, meD, cRev, revD, sMk, seqD, cLenv, cIxv, cSlv, cIx, ixD, cSl, slD, tE, tV, tNot, truD, esCons, bCons, tCons, tsCons, pOne, iIt, iRng, iEnu, tupOf, itD, rangeD, sAsg, sAsgT, sSetix, sApp, sExt, sExpr, sRet, sRetV, sIf, rdV, rdR, ownAt, putO, put1, ioB_no, ioB_imm, ioB_own, ioB_gs, putT, putR, fz, Res.d, O.d, Slot.o,
  List.getElem?_cons_zero, List.getElem?_cons_succ, List.set_cons_zero, List.set_cons_succ, if_true, if_false, ite_true, ite_false, Bool.false_eq_true, reduceIte])
local macro_rules | `(tactic| walk_at "zs") => `(tactic| simp (disch := first | omega | assumption | decide | (apply IsP.l; assumption)) only [IFP, IFdiv, IFpow, IFT, IFtt, sh_int, sh_bool, sh_none, sh_L, Bool.and_self, Bool.true_and, Bool.and_true, flatD, List.all_cons, List.all_nil, List.length_cons, List.length_nil, decide_true, decide_false, Bool.not_false, Bool.not_true, eqv_int, eqv_L, evSs, evS, evE, evEs, evI, mE, msCons, msNil, Es.isNil, cV, cC, cGl, vOf, cOp, opD, addD, mulD, Z.intD, mulOk_l, mulOk_r, cNeg, cCmp, cmpD, ordD, cNot, cIte, cLst, cTup, cCall, cCallIO, cBi, biD, lenD, listD, tupleD, int1D, int2D, allD, sumD, intsD, boolsD, strD, cIsi, isiD, cPopv, cMe, meD, cRev, revD, sMk, seqD, cLenv, cIxv, cSlv, cIx, ixD, cSl, slD, tE, tV, tNot, truD, esCons, bCons, tCons, tsCons, pOne, iIt, iRng, iEnu, tupOf, itD, rangeD, sAsg, sAsgT, sSetix, sApp, sExt, sExpr, sRet, sRetV, sIf, rdV, rdR, ownAt, putO, put1, ioB_no, ioB_imm, ioB_own, ioB_gs, putT, putR, fz, Res.d, O.d, Slot.o,
  List.getElem?_cons_zero, List.getElem?_cons_succ, List.set_cons_zero, List.set_cons_succ, if_true, if_false, ite_true, ite_false, Bool.false_eq_true, reduceIte, *])
/-! ### read_number, read_string, read_one -/
theorem drop_at {w : List Int} {i : Nat} {b : Int} {r : List Int} (h : w.drop i = b :: r) : w[i]? = some b ∧ w.drop (i + 1) = r ∧ i < w.length := by
  have h1 : (w.drop i)[0]? = some b := by rw [h]; rfl
  rw [List.getElem?_drop, Nat.add_zero] at h1
  refine ⟨h1, ?_, (List.getElem?_eq_some_iff.mp h1).1⟩
  rw [← List.drop_drop, h]
  rfl
def rnTail : Ss := .cons (.asg 3 (.op .mul (.int 128) (.v 3))) (.cons (.asg 1 (.op .add (.v 1) (.int 1))) (.cons (.ife (.cmp .lt (.v 5) (.int 128)) (.cons (.ret (.tup (.cons (.v 2) (.cons (.v 1) .nil)))) .nil) .nil) .nil))
theorem f_read_number (k : Nat) (w suf : List Int) (p n : Nat) (h : w.drop p = nb n ++ suf) :
    run tb.T (k + 1) i_read_number none [.list (L w), .int (p : Nat)] = some (.imm (.tuple [.int (n : Nat), .int ((p + (nb n).length : Nat) : Int)]), none) := by
  have hs := szl
  show runD (run tb.T k) 6 b_read_number none [.list (L w), .int (p : Nat)] = _
  refine runD_of ?_
  show W (evSs _ b_read_number [.imm (.list (L w)), .imm (.int (p : Nat)), .no, .no, .no, .no]) _
  unfold b_read_number
  refine W_next (env' := [.imm (.list (L w)), .imm (.int (p : Nat)), .imm (.int ((0 : Nat) : Int)), .no, .no, .no]) (by walk_at "z" <;> rfl) ?_
  refine W_next (env' := [.imm (.list (L w)), .imm (.int (p : Nat)), .imm (.int ((0 : Nat) : Int)), .imm (.int ((1 : Nat) : Int)), .no, .no]) (by walk_at "z" <;> rfl) ?_
  refine W_next (env' := [.imm (.list (L w)), .imm (.int (p : Nat)), .imm (.int ((0 : Nat) : Int)), .imm (.int ((1 : Nat) : Int)), .imm (.int (p : Nat)), .no]) (by walk_at "z" <;> rfl) ?_
  refine W_cons ?_
  refine W_while (fun m e => ∃ (j acc : Nat) (x5 : Option D), e = [.imm (.list (L w)), .imm (.int ((p + j : Nat) : Int)), .imm (.int (acc : Nat)), .imm (.int ((128 ^ j : Nat) : Int)), .imm (.int (p : Nat)), gs x5] ∧ w.drop (p + j) = nb m ++ suf ∧ acc + 128 ^ j * m = n ∧ (0 < j → 0 < m) ∧ j + (nb m).length = (nb n).length) n ⟨0, 0, none, rfl, h, by simp, fun z => absurd z (by omega), by simp⟩ ?_
  rintro m e ⟨j, acc, x5, rfl, hd, ha, hj, hlen⟩
  have hL := L_len w
  generalize hwo : 128 ^ j = wo at ha
  by_cases hm : m ≤ 127
  · rw [nb_small hm] at hd hlen
    obtain ⟨h1, _, h3⟩ := drop_at (b := (m : Int)) (r := suf) hd
    have g := at_nat w (p + j) _ h1
    have d1 : decide (((p + j : Nat) : Int) < ((L w).length : Nat)) = true := decide_eq_true (by omega)
    refine W.eq (a := true) (e := [.imm (.list (L w)), .imm (.int ((p + j : Nat) : Int)), .imm (.int (acc : Nat)), .imm (.int (wo : Nat)), .imm (.int (p : Nat)), gs x5]) ?_ ?_
    · walk_at "z"
      rw [d1]
    show W (evSs _ l_read_number_1 _) _
    unfold l_read_number_1
    refine W_next (env' := [.imm (.list (L w)), .imm (.int ((p + j : Nat) : Int)), .imm (.int (acc : Nat)), .imm (.int (wo : Nat)), .imm (.int (p : Nat)), .imm (.int (m : Nat))]) ?_ ?_
    · walk_at "z"
      rw [g]
      cases x5 <;> rfl
    refine W_cons (W_if (k := false) (env' := [.imm (.list (L w)), .imm (.int ((p + j : Nat) : Int)), .imm (.int (acc : Nat)), .imm (.int (wo : Nat)), .imm (.int (p : Nat)), .imm (.int (m : Nat))]) ?_ (fun z => nomatch z) (fun _ => ?_))
    · by_cases h0 : m = 0
      · have hj0 : j = 0 := by omega
        have d2 : decide (((m : Nat) : Int) = 0) = true := decide_eq_true (by omega)
        have d3 : decide (((p : Nat) : Int) < ((p + j : Nat) : Int)) = false := decide_eq_false (by omega)
        walk_at "z"
        rw [d2]
        walk_at "z"
        rw [d3]
      · have d2 : decide (((m : Nat) : Int) = 0) = false := decide_eq_false (by omega)
        walk_at "z"
        rw [d2]
        walk_at "z" <;> rfl
    refine W_nil ?_
    refine W_next (env' := [.imm (.list (L w)), .imm (.int ((p + j : Nat) : Int)), .imm (.int (n : Nat)), .imm (.int (wo : Nat)), .imm (.int (p : Nat)), .imm (.int (m : Nat))]) ?_ ?_
    · have e1 : ((m : Nat) : Int).fmod 128 = (m : Int) := by rw [fm _ (by decide)]; omega
      have e2 : ((acc : Nat) : Int) + (wo : Int) * (m : Int) = (n : Int) := by rw [← ha]; push_cast; rfl
      walk_at "z"
      rw [e1, e2]
    refine W_next (env' := [.imm (.list (L w)), .imm (.int ((p + j : Nat) : Int)), .imm (.int (n : Nat)), .imm (.int (128 * (wo : Int))), .imm (.int (p : Nat)), .imm (.int (m : Nat))]) (by walk_at "z") ?_
    refine W_next (env' := [.imm (.list (L w)), .imm (.int ((p + (nb n).length : Nat) : Int)), .imm (.int (n : Nat)), .imm (.int (128 * (wo : Int))), .imm (.int (p : Nat)), .imm (.int (m : Nat))]) ?_ ?_
    · have e1 : ((p + j : Nat) : Int) + 1 = ((p + (nb n).length : Nat) : Int) := by
        rw [List.length_singleton] at hlen
        omega
      walk_at "z"
      rw [e1]
    refine W_cons (W_if (k := true) (env' := [.imm (.list (L w)), .imm (.int ((p + (nb n).length : Nat) : Int)), .imm (.int (n : Nat)), .imm (.int (128 * (wo : Int))), .imm (.int (p : Nat)), .imm (.int (m : Nat))]) ?_ (fun _ => ?_) (fun z => nomatch z))
    · have d4 : decide (((m : Nat) : Int) < 128) = true := decide_eq_true (by omega)
      walk_at "z"
      rw [d4]
    refine W_ret (env' := [.imm (.list (L w)), .imm (.int ((p + (nb n).length : Nat) : Int)), .imm (.int (n : Nat)), .imm (.int (128 * (wo : Int))), .imm (.int (p : Nat)), .imm (.int (m : Nat))]) ?_ ⟨rfl, rfl⟩
    walk_at "z"
  · rw [nb_big hm] at hd hlen
    rw [List.cons_append] at hd
    obtain ⟨h1, h2, h3⟩ := drop_at hd
    have g := at_nat w (p + j) _ h1
    obtain ⟨b, hb⟩ : ∃ b : Nat, b = 128 + m % 128 := ⟨_, rfl⟩
    rw [← hb] at g
    have d1 : decide (((p + j : Nat) : Int) < ((L w).length : Nat)) = true := decide_eq_true (by omega)
    refine W.eq (a := true) (e := [.imm (.list (L w)), .imm (.int ((p + j : Nat) : Int)), .imm (.int (acc : Nat)), .imm (.int (wo : Nat)), .imm (.int (p : Nat)), gs x5]) ?_ ?_
    · walk_at "z"
      rw [d1]
    show W (evSs _ l_read_number_1 _) _
    unfold l_read_number_1
    refine W_next (env' := [.imm (.list (L w)), .imm (.int ((p + j : Nat) : Int)), .imm (.int (acc : Nat)), .imm (.int (wo : Nat)), .imm (.int (p : Nat)), .imm (.int (b : Nat))]) ?_ ?_
    · walk_at "z"
      rw [g]
      cases x5 <;> rfl
    refine W_cons (W_if (k := false) (env' := [.imm (.list (L w)), .imm (.int ((p + j : Nat) : Int)), .imm (.int (acc : Nat)), .imm (.int (wo : Nat)), .imm (.int (p : Nat)), .imm (.int (b : Nat))]) ?_ (fun z => nomatch z) (fun _ => W_nil ?_))
    · have d2 : decide (((b : Nat) : Int) = 0) = false := decide_eq_false (by omega)
      walk_at "z"
      rw [d2]
      walk_at "z" <;> rfl
    refine W_next (env' := [.imm (.list (L w)), .imm (.int ((p + j : Nat) : Int)), .imm (.int ((acc + wo * (m % 128) : Nat) : Int)), .imm (.int (wo : Nat)), .imm (.int (p : Nat)), .imm (.int (b : Nat))]) ?_ ?_
    · have e1 : ((b : Nat) : Int).fmod 128 = ((m % 128 : Nat) : Int) := by rw [fm _ (by decide)]; omega
      have e2 : ((acc : Nat) : Int) + (wo : Int) * ((m % 128 : Nat) : Int) = ((acc + wo * (m % 128) : Nat) : Int) := by push_cast; rfl
      walk_at "z"
      rw [e1, e2]
    refine W_next (env' := [.imm (.list (L w)), .imm (.int ((p + j : Nat) : Int)), .imm (.int ((acc + wo * (m % 128) : Nat) : Int)), .imm (.int ((128 * wo : Nat) : Int)), .imm (.int (p : Nat)), .imm (.int (b : Nat))]) ?_ ?_
    · have e1 : (128 : Int) * (wo : Int) = ((128 * wo : Nat) : Int) := by push_cast; rfl
      walk_at "z"
      rw [e1]
    refine W_next (env' := [.imm (.list (L w)), .imm (.int ((p + (j + 1) : Nat) : Int)), .imm (.int ((acc + wo * (m % 128) : Nat) : Int)), .imm (.int ((128 * wo : Nat) : Int)), .imm (.int (p : Nat)), .imm (.int (b : Nat))]) ?_ ?_
    · have e1 : ((p + j : Nat) : Int) + 1 = ((p + (j + 1) : Nat) : Int) := by omega
      walk_at "z"
      rw [e1]
    refine W_cons (W_if (k := false) (env' := [.imm (.list (L w)), .imm (.int ((p + (j + 1) : Nat) : Int)), .imm (.int ((acc + wo * (m % 128) : Nat) : Int)), .imm (.int ((128 * wo : Nat) : Int)), .imm (.int (p : Nat)), .imm (.int (b : Nat))]) ?_ (fun z => nomatch z) (fun _ => W_nil (W_nil ⟨m / 128, by omega, j + 1, acc + wo * (m % 128), some (.int (b : Nat)), ?_, ?_, ?_, fun _ => by omega, ?_⟩)))
    · have d4 : decide (((b : Nat) : Int) < 128) = false := decide_eq_false (by omega)
      walk_at "z"
      rw [d4]
    · rw [show 128 ^ (j + 1) = 128 * wo by rw [Nat.pow_succ, hwo, Nat.mul_comm]]
      rfl
    · exact h2
    · rw [← ha, show 128 ^ (j + 1) = wo * 128 by rw [Nat.pow_succ, hwo], Nat.add_assoc, Nat.mul_assoc, ← Nat.mul_add]
      congr 2
      omega
    · rw [List.length_cons] at hlen
      omega
/-! texts -/
theorem sg_ix {c : Nat} (h : c ∈ SG) : ixD (.str sgS) (.int (sgI c)) = some (.str ⟨#[c]⟩) := by
  show IF (sgS.length ≤ sizeLine) ((L2.atI sgS.cps.toList (sgI c)).map fun c => PyData.str ⟨#[c]⟩) = _
  rw [IFP (by decide +kernel)]
  have : L2.atI SG ((SG.idxOf c : Nat) : Int) = some c := L2.atI_nat (sg_of h).2.1
  show (L2.atI SG (sgI c)).map _ = _
  unfold sgI
  rw [this]
  rfl
theorem sg_blen : lenD [.str sgS] = some (.imm (.int 73)) := by
  show IF (sgS.length ≤ sizeLine) (some (Res.imm (.int (sgS.length : Nat)))) = _
  rw [IFP (by decide +kernel)]
  have : sgS.length = 73 := by decide +kernel
  rw [this]
  rfl
theorem joinL_one : ∀ cs : List Nat, TL.joinL [] (cs.map fun c => [c]) = cs
  | [] => rfl
  | [c] => rfl
  | c :: d :: r => by
    have ih := joinL_one (d :: r)
    show [c] ++ ([] ++ TL.joinL [] ((d :: r).map fun c => [c])) = _
    rw [ih]
    rfl
theorem strs_one : ∀ cs : List Nat, strsD (cs.map fun c => PyData.str ⟨#[c]⟩) = some (cs.map fun c => (⟨#[c]⟩ : Str))
  | [] => rfl
  | c :: r => by
    show (strsD (r.map fun c => PyData.str ⟨#[c]⟩)).map ((⟨#[c]⟩ : Str) :: ·) = _
    rw [strs_one r]
    rfl
theorem sum_one : ∀ cs : List Nat, ((cs.map fun c => (⟨#[c]⟩ : Str)).map (·.length)).sum = cs.length
  | [] => rfl
  | c :: r => by
    rw [List.map_cons, List.map_cons, List.sum_cons, sum_one r, List.length_cons]
    show 1 + r.length = r.length + 1
    omega
theorem join_me (cs : List Nat) (h : cs.length ≤ 100000) : ∃ ys, strsD (cs.map fun c => PyData.str ⟨#[c]⟩) = some ys ∧ (ys.map (fun y : Str => y.length)).sum + ys.length * ("" : Str).length ≤ 16777216 ∧ Txt.join "" ys = ⟨cs.toArray⟩ := by
  refine ⟨_, strs_one cs, ?_, ?_⟩
  · have e0 : ("" : Str).length = 0 := by decide +kernel
    rw [sum_one, e0]
    omega
  · have e1 : ("" : Str) = SX.S [] := by decide +kernel
    have e2 : (cs.map fun c => (⟨#[c]⟩ : Str)) = (cs.map fun c => [c]).map SX.S := by
      rw [List.map_map]
      rfl
    rw [e1, e2, SX.join_S, joinL_one]
theorem f_read_string (k : Nat) (w suf : List Int) (p : Nat) (s : Str) (hc : ∀ c ∈ s.cps.toList, c ∈ SG) (hz : s.length ≤ 5000) (h : w.drop p = nb s.length ++ (s.cps.toList.map sgI ++ suf)) :
    run tb.T (k + 2) i_read_string none [.list (L w), .int (p : Nat)] = some (.imm (.tuple [.str s, .int ((p + (nb s.length).length + s.length : Nat) : Int)]), none) := by
  have hs := szl
  have hn := f_read_number k w _ p s.length h
  show runD (run tb.T (k + 1)) 4 b_read_string none [.list (L w), .int (p : Nat)] = _
  refine runD_of ?_
  show W (evSs _ b_read_string [.imm (.list (L w)), .imm (.int (p : Nat)), .no, .no]) _
  obtain ⟨q, hq⟩ : ∃ q, q = p + (nb s.length).length := ⟨_, rfl⟩
  have hdq : w.drop q = s.cps.toList.map sgI ++ suf := by
    rw [hq, ← List.drop_drop, h, List.drop_left']
    rfl
  rw [← hq] at hn ⊢
  have hsl := slen s
  have hstr : s = ⟨s.cps.toList.toArray⟩ := by cases s; simp
  generalize hcs : s.cps.toList = cs at *
  generalize hln : s.length = ln at *
  unfold b_read_string
  refine W_next (env' := [.imm (.list (L w)), .imm (.int (q : Nat)), .no, .imm (.int (ln : Nat))]) ?_ ?_
  · walk_at "z"
    rw [hn]
    rfl
  refine W_cons (W_if (k := false) (env' := [.imm (.list (L w)), .imm (.int (q : Nat)), .no, .imm (.int (ln : Nat))]) (by walk_at "z" <;> rfl) (fun z => nomatch z) (fun _ => W_nil ?_))
  refine W_next (env' := [.imm (.list (L w)), .imm (.int (q : Nat)), .own (.lst []), .imm (.int (ln : Nat))]) (by walk_at "z" <;> rfl) ?_
  refine W_cons ?_
  have hL := L_len w
  refine W_while (fun m e => ∃ j, j + m = ln ∧ e = [.imm (.list (L w)), .imm (.int ((q + j : Nat) : Int)), .own (.lst ((cs.take j).map fun c => PyData.str ⟨#[c]⟩)), .imm (.int (ln : Nat))]) ln ⟨0, by omega, by simp⟩ ?_
  rintro m e ⟨j, hj, rfl⟩
  have hlt : ((cs.take j).map fun c => PyData.str ⟨#[c]⟩).length = j := by rw [List.length_map, List.length_take]; omega
  cases m with
  | zero =>
    have hjl : j = ln := by omega
    subst hjl
    have ht : cs.take j = cs := List.take_of_length_le (by omega)
    obtain ⟨ys, hj1, hj2, hj3⟩ := join_me cs (by omega)
    rw [ht] at hlt ⊢
    rw [← hstr] at hj3
    generalize (cs.map fun c => PyData.str ⟨#[c]⟩) = xs at *
    have d1 : decide (((xs.length : Nat) : Int) < (j : Nat)) = false := decide_eq_false (by omega)
    refine W.eq (a := false) (e := [.imm (.list (L w)), .imm (.int ((q + j : Nat) : Int)), .own (.lst xs), .imm (.int (j : Nat))]) ?_ ?_
    · walk_at "z"
      rw [d1]
    refine W_ret (env' := [.imm (.list (L w)), .imm (.int ((q + j : Nat) : Int)), .imm (.list xs), .imm (.int (j : Nat))]) ?_ ⟨rfl, rfl⟩
    walk_at "z"
    rw [hj1]
    walk_at "z"
    rw [hj3]
  | succ m =>
    have hjl : j < cs.length := by omega
    obtain ⟨c, hcj⟩ : ∃ c, cs[j]? = some c := ⟨_, List.getElem?_eq_getElem hjl⟩
    have hcm := hc c (List.mem_of_getElem? hcj)
    have h1 : w[q + j]? = some (sgI c) := by
      have : (w.drop q)[j]? = some (sgI c) := by
        rw [hdq, List.getElem?_append_left (by rw [List.length_map]; omega), List.getElem?_map, hcj]
        rfl
      rw [List.getElem?_drop] at this
      exact this
    have h3 := (List.getElem?_eq_some_iff.mp h1).1
    have g := at_nat w (q + j) _ h1
    have g2 := sg_ix hcm
    have g3 := (sg_of hcm).2.2
    have htk : cs.take (j + 1) = cs.take j ++ [c] := by
      obtain ⟨a1, a2⟩ := List.getElem?_eq_some_iff.mp hcj
      rw [List.take_succ_eq_append_getElem a1, a2]
    have e1 : ((cs.take j).map fun c => PyData.str ⟨#[c]⟩) ++ [PyData.str ⟨#[c]⟩] = (cs.take (j + 1)).map fun c => PyData.str ⟨#[c]⟩ := by
      rw [htk, List.map_append]
      rfl
    generalize ((cs.take j).map fun c => PyData.str ⟨#[c]⟩) = xs at *
    have d1 : decide (((xs.length : Nat) : Int) < (ln : Nat)) = true := decide_eq_true (by omega)
    have d2 : decide ((((L w).length : Nat) : Int) ≤ ((q + j : Nat) : Int)) = false := decide_eq_false (by omega)
    have d3 : decide ((73 : Int) ≤ sgI c) = false := decide_eq_false (by unfold sgI; omega)
    refine W.eq (a := true) (e := [.imm (.list (L w)), .imm (.int ((q + j : Nat) : Int)), .own (.lst xs), .imm (.int (ln : Nat))]) ?_ ?_
    · walk_at "z"
      rw [d1]
    show W (evSs _ l_read_string_1 _) _
    unfold l_read_string_1
    refine W_cons (W_if (k := false) (env' := [.imm (.list (L w)), .imm (.int ((q + j : Nat) : Int)), .own (.lst xs), .imm (.int (ln : Nat))]) ?_ (fun z => nomatch z) (fun _ => W_nil ?_))
    · have e73 : ((sgS.length : Nat) : Int) = 73 := by decide +kernel
      walk_at "z"
      rw [d2, g]
      walk_at "z"
      rw [e73, d3]
    refine W_next (env' := [.imm (.list (L w)), .imm (.int ((q + j : Nat) : Int)), .own (.lst (xs ++ [.str ⟨#[c]⟩])), .imm (.int (ln : Nat))]) ?_ ?_
    · have g4 : L2.atI sgS.cps.toList (sgI c) = some c := L2.atI_nat (sg_of hcm).2.1
      walk_at "z"
      rw [g]
      walk_at "z"
      rw [g4, Option.map_some]
      walk_at "z"
    refine W_next (env' := [.imm (.list (L w)), .imm (.int ((q + (j + 1) : Nat) : Int)), .own (.lst (xs ++ [.str ⟨#[c]⟩])), .imm (.int (ln : Nat))]) ?_ (W_nil ⟨m, by omega, j + 1, by omega, by rw [e1]⟩)
    have e2 : ((q + j : Nat) : Int) + 1 = ((q + (j + 1) : Nat) : Int) := by omega
    walk_at "z"
    rw [e2]
theorem f_read_one1 (k : Nat) (w suf : List Int) (p : Nat) (s : Str) (hc : ∀ c ∈ s.cps.toList, c ∈ SG) (hz : s.length ≤ 5000) (h : w.drop p = 1 :: (nb s.length ++ (s.cps.toList.map sgI ++ suf))) :
    run tb.T (k + 3) i_read_one none [.list (L w), .int (p : Nat)] = some (.imm (.tuple [.str "value", .str s, .int ((p + 1 + (nb s.length).length + s.length : Nat) : Int)]), none) := by
  have hs := szl
  obtain ⟨h1, h2, h3⟩ := drop_at h
  have hn := f_read_string k w suf (p + 1) s hc hz h2
  have g := at_nat w p _ h1
  show runD (run tb.T (k + 2)) 4 b_read_one none [.list (L w), .int (p : Nat)] = _
  refine runD_of ?_
  show W (evSs _ b_read_one [.imm (.list (L w)), .imm (.int (p : Nat)), .no, .no]) _
  generalize p + 1 + (nb s.length).length + s.length = q at *
  have d1 : decide ((1 : Int) = 1) = true := rfl
  have e1 : ((p : Nat) : Int) + 1 = ((p + 1 : Nat) : Int) := by omega
  unfold b_read_one
  refine W_cons (W_if (k := true) (env' := [.imm (.list (L w)), .imm (.int (p : Nat)), .no, .no]) ?_ (fun _ => ?_) (fun z => nomatch z))
  · walk_at "z"
    rw [g]
    walk_at "z" <;> rfl
  refine W_next (env' := [.imm (.list (L w)), .imm (.int (q : Nat)), .no, .imm (.str s)]) ?_ ?_
  · walk_at "z"
    rw [e1, hn]
    rfl
  refine W_ret (env' := [.imm (.list (L w)), .imm (.int (q : Nat)), .no, .imm (.str s)]) ?_ ⟨rfl, rfl⟩
  walk_at "z"
theorem f_read_one2 (k : Nat) (w suf : List Int) (p n : Nat) (t : Int) (ht : t = 0 ∨ t = 2) (h : w.drop p = t :: (nb n ++ suf)) :
    run tb.T (k + 3) i_read_one none [.list (L w), .int (p : Nat)] = some (.imm (.tuple [.str "number", .int (n : Nat), .int ((p + 1 + (nb n).length : Nat) : Int)]), none) := by
  have hs := szl
  obtain ⟨h1, h2, h3⟩ := drop_at h
  have hn := f_read_number (k + 1) w suf (p + 1) n h2
  have g := at_nat w p _ h1
  show runD (run tb.T (k + 2)) 4 b_read_one none [.list (L w), .int (p : Nat)] = _
  refine runD_of ?_
  show W (evSs _ b_read_one [.imm (.list (L w)), .imm (.int (p : Nat)), .no, .no]) _
  generalize p + 1 + (nb n).length = q at *
  have d1 : decide (t = 1) = false := decide_eq_false (by omega)
  have e1 : ((p : Nat) : Int) + 1 = ((p + 1 : Nat) : Int) := by omega
  unfold b_read_one
  refine W_cons (W_if (k := false) (env' := [.imm (.list (L w)), .imm (.int (p : Nat)), .no, .no]) ?_ (fun z => nomatch z) (fun _ => W_nil ?_))
  · walk_at "z"
    rw [g]
    walk_at "z"
    rw [d1]
  refine W_next (env' := [.imm (.list (L w)), .imm (.int (q : Nat)), .imm (.int (n : Nat)), .no]) ?_ ?_
  · walk_at "z"
    rw [e1, hn]
    rfl
  refine W_ret (env' := [.imm (.list (L w)), .imm (.int (q : Nat)), .imm (.int (n : Nat)), .no]) ?_ ⟨rfl, rfl⟩
  walk_at "z"
end K48
namespace K48
open PySem PySem.Spec PyProof.Rows Z
local macro_rules | `(tactic| walk_at "z") => `(tactic| simp (disch := first | omega | assumption | decide | (apply IsP.l; assumption)) only [IFP, IFdiv, IFpow, IFT, IFtt, sh_int, sh_bool, sh_none, sh_L, Bool.and_self, Bool.true_and, Bool.and_true, flatD, List.all_cons, List.all_nil, List.length_cons, List.length_nil, decide_true, decide_false, Bool.not_false, Bool.not_true, eqv_int, eqv_L, evSs, evS, evE, evEs, evI, mE, msCons, msNil, Es.isNil, cV, cC, cGl, vOf, cOp, opD, addD, mulD, Z.intD, mulOk_l, mulOk_r, cNeg, cCmp, cmpD, ordD, cNot, cIte, cLst, cTup, cCall, cCallIO, cBi, biD, lenD, listD, tupleD, int1D, int2D, allD, sumD, intsD, boolsD, strD, cIsi, isiD, cPopv, cMe, meD, cRev, revD, sMk, seqD, cLenv, cIxv, cSlv, cIx, ixD, cSl, slD, tE, tV, tNot, truD, esCons, bCons, tCons, tsCons, pOne, iIt, iRng, iEnu, tupOf, itD, rangeD, sAsg, sAsgT, sSetix, sApp, sExt, sExpr, sRet, sRetV, sIf, rdV, rdR, ownAt, putO, put1, ioB_no, ioB_imm, ioB_own, ioB_gs, putT, putR, fz, Res.d, O.d, Slot.o,
  List.getElem?_cons_zero, List.getElem?_cons_succ, List.set_cons_zero, List.set_cons_succ, if_true, if_false, ite_true, ite_false, Bool.false_eq_true, reduceIte])
local macro_rules | `(tactic| walk_at "zs") => `(tactic| simp (disch := first | omega | assumption | decide | (apply IsP.l; assumption)) only [IFP, IFdiv, IFpow, IFT, IFtt, sh_int, sh_bool, sh_none, sh_L, Bool.and_self, Bool.true_and, Bool.and_true, flatD, List.all_cons, List.all_nil, List.length_cons, List.length_nil, decide_true, decide_false, Bool.not_false, Bool.not_true, eqv_int, eqv_L, evSs, evS, evE, evEs, evI, mE, msCons, msNil, Es.isNil, cV, cC, cGl, vOf, cOp, opD, addD, mulD, Z.intD, mulOk_l, mulOk_r, cNeg, cCmp, cmpD, ordD, cNot, cIte, cLst, cTup, cCall, cCallIO, cBi, biD, lenD, listD, tupleD, int1D, int2D, allD, sumD, intsD, boolsD, strD, cIsi, isiD, cPopv, cMe, meD, cRev, revD, sMk, seqD, cLenv, cIxv, cSlv, cIx, ixD, cSl, slD, tE, tV, tNot, truD, esCons, bCons, tCons, tsCons, pOne, iIt, iRng, iEnu, tupOf, itD, rangeD, sAsg, sAsgT, sSetix, sApp, sExt, sExpr, sRet, sRetV, sIf, rdV, rdR, ownAt, putO, put1, ioB_no, ioB_imm, ioB_own, ioB_gs, putT, putR, fz, Res.d, O.d, Slot.o,
  List.getElem?_cons_zero, List.getElem?_cons_succ, List.set_cons_zero, List.set_cons_succ, if_true, if_false, ite_true, ite_false, Bool.false_eq_true, reduceIte, *])
/-! ### value_of -/
theorem W_whileI {c : MT} {b : MS} {env : Z.Env} {Φ : Fl → Z.Env → Prop} (h : W (c env) fun k e1 => if k then W (b e1) (Lp (fun e2 => W (whileS c b e2) Φ) Φ) else Φ .next e1) : W (whileS c b env) Φ := by
  obtain ⟨k, e1, h1, h2⟩ := h
  cases k with
  | false =>
    refine ⟨.next, e1, whileS_of (n := 1) ?_, h2⟩
    unfold whileN
    rw [h1]
  | true =>
    have h2 : W (b e1) (Lp (fun e2 => W (whileS c b e2) Φ) Φ) := h2
    obtain ⟨fl, e2, h3, h4⟩ := h2
    have go : W (whileS c b e2) Φ → (fl = .next ∨ fl = .cont) → W (whileS c b env) Φ := by
      rintro ⟨x, e3, h5, h6⟩ hf
      obtain ⟨n, h7⟩ := whileS_some h5
      refine ⟨x, e3, whileS_of (n := n + 1) ?_, h6⟩
      unfold whileN
      rw [h1]
      show (match b e1 with | some (.next, env) => whileN c b n env | some (.cont, env) => whileN c b n env | some (.brk, env) => some (.next, env) | some (.ret r, env) => some (.ret r, env) | none => none) = _
      rw [h3]
      rcases hf with rfl | rfl <;> exact h7
    have stop : ∀ x, (fl = .brk ∧ x = Fl.next ∨ ∃ r, fl = .ret r ∧ x = Fl.ret r) → Φ x e2 → W (whileS c b env) Φ := by
      intro x hx hp
      refine ⟨x, e2, whileS_of (n := 1) ?_, hp⟩
      unfold whileN
      rw [h1]
      show (match b e1 with | some (.next, env) => whileN c b 0 env | some (.cont, env) => whileN c b 0 env | some (.brk, env) => some (.next, env) | some (.ret r, env) => some (.ret r, env) | none => none) = _
      rw [h3]
      rcases hx with ⟨rfl, rfl⟩ | ⟨r, rfl, rfl⟩ <;> rfl
    cases fl with
    | next => exact go h4 (.inl rfl)
    | cont => exact go h4 (.inr rfl)
    | brk => exact stop .next (.inl ⟨rfl, rfl⟩) h4
    | ret r => exact stop (.ret r) (.inr ⟨r, rfl, rfl⟩) h4
/-! the stack of opened tuples, the innermost first -/
abbrev Stk := List (Nat × List D)
def hdA (st : Stk) : List Slot := st.reverse.map fun p => Slot.hid (.lst p.2)
def hd (st : Stk) : List Slot := hdA st ++ List.replicate (4 - st.length) .no
def nsS (st : Stk) : List Int := st.reverse.map fun p => (p.1 : Int)
theorem hdA_len (st : Stk) : (hdA st).length = st.length := by simp [hdA]
theorem nsS_len (st : Stk) : (nsS st).length = st.length := by simp [nsS]
theorem hd_cons (n : Nat) (xs : List D) (st : Stk) : hd ((n, xs) :: st) = hdA st ++ (.hid (.lst xs) :: List.replicate (3 - st.length) .no) := by
  unfold hd hdA
  rw [List.reverse_cons, List.map_append, List.append_assoc, List.length_cons]
  have : 4 - (st.length + 1) = 3 - st.length := by omega
  rw [this]
  rfl
theorem hd_no {st : Stk} (h : st.length < 4) : hd st = hdA st ++ (.no :: List.replicate (3 - st.length) .no) := by
  unfold hd
  have : 4 - st.length = (3 - st.length) + 1 := by omega
  rw [this, List.replicate_succ]
theorem nsS_cons (n : Nat) (xs : List D) (st : Stk) : nsS ((n, xs) :: st) = nsS st ++ [(n : Int)] := by
  unfold nsS
  rw [List.reverse_cons, List.map_append]
  rfl
theorem at6 (a b c d e f : Slot) (H : List Slot) (k : Nat) : (a :: b :: c :: d :: e :: f :: H)[6 + k]? = H[k]? := by
  rw [Nat.add_comm]
  rfl
theorem set6 (a b c d e f x : Slot) (H : List Slot) (k : Nat) : (a :: b :: c :: d :: e :: f :: H).set (6 + k) x = a :: b :: c :: d :: e :: f :: H.set k x := by
  rw [Nat.add_comm]
  rfl
theorem mid_at (A B : List Slot) (x : Slot) (k : Nat) (h : A.length = k) : (A ++ x :: B)[k]? = some x := by
  rw [List.getElem?_append_right (by omega), h, Nat.sub_self]
  rfl
theorem mid_set (A B : List Slot) (x y : Slot) (k : Nat) (h : A.length = k) : (A ++ x :: B).set k y = A ++ y :: B := by
  rw [List.set_append_right _ _ (by omega), h, Nat.sub_self]
  rfl
section
variable {a b d e f : Slot} {n : Nat} {xs : List D} {st : Stk}
abbrev eV (a b d e f : Slot) (st : Stk) : Z.Env := a :: b :: .own (.stk 6 (nsS st)) :: d :: e :: f :: hd st
theorem top_at : topAt (eV a b d e f ((n, xs) :: st)) 2 = some (6, nsS ((n, xs) :: st), xs) := by
  have h1 : (eV a b d e f ((n, xs) :: st))[2]? = some (.own (.stk 6 (nsS ((n, xs) :: st)))) := rfl
  unfold topAt
  rw [h1]
  have hl : (nsS ((n, xs) :: st)).length = st.length + 1 := by rw [nsS_len, List.length_cons]
  generalize nsS ((n, xs) :: st) = ns at hl
  cases ns with
  | nil => cases hl
  | cons m ms =>
    have hm : ms.length = st.length := by rw [List.length_cons] at hl; omega
    show (match (eV a b d e f ((n, xs) :: st))[6 + ms.length]? with | some (.hid (.lst xs)) => some (6, m :: ms, xs) | _ => none) = _
    rw [at6, hm, hd_cons, mid_at _ _ _ _ (hdA_len st)]
theorem top_n : cTopN 2 (eV a b d e f ((n, xs) :: st)) = some (.imm (.int (n : Nat)), eV a b d e f ((n, xs) :: st)) := by
  have h1 : (eV a b d e f ((n, xs) :: st))[2]? = some (.own (.stk 6 (nsS ((n, xs) :: st)))) := rfl
  unfold cTopN
  rw [h1]
  have hx : (nsS ((n, xs) :: st))[(nsS ((n, xs) :: st)).length - 1]? = some (n : Int) := by
    rw [nsS_cons]
    simp
  simp only [hx]
theorem top_len : cTopLen 2 (eV a b d e f ((n, xs) :: st)) = some (.imm (.int (xs.length : Nat)), eV a b d e f ((n, xs) :: st)) := by
  unfold cTopLen
  rw [top_at]
theorem set2 (x : Slot) (H : List Slot) (c : Slot) : (a :: b :: c :: d :: e :: f :: H).set 2 x = a :: b :: x :: d :: e :: f :: H := rfl
theorem hd_slot : ∀ {st : Stk} {j : Nat} {s : Slot}, (hd st)[j]? = some s → s = .no ∨ ∃ xs, s = .hid (.lst xs) := by
  intro st j s h
  have hm := List.mem_of_getElem? h
  unfold hd hdA at hm
  rcases List.mem_append.mp hm with hm | hm
  · obtain ⟨p, _, rfl⟩ := List.mem_map.mp hm
    exact .inr ⟨_, rfl⟩
  · exact .inl (List.mem_replicate.mp hm).2
/-- no list of pairs -/
def plainS : Slot → Prop
  | .no => True
  | .imm _ => True
  | _ => False
theorem only2 (ha : plainS a) (hb : plainS b) (hd' : plainS d) (he : plainS e) (hf : plainS f) : onlyStk (eV a b d e f st) 2 := by
  intro j b' ns h
  have pl : ∀ s : Slot, plainS s → ∀ {env : Z.Env} {i : Nat}, env[i]? = some s → ownAt env i = some (.stk b' ns) → False := by
    intro s hs env i h1 h2
    unfold ownAt at h2
    rw [h1] at h2
    cases s with
    | no => cases h2
    | imm d => cases h2
    | _ => exact hs
  match j with
  | 0 => exact (pl a ha rfl h).elim
  | 1 => exact (pl b hb rfl h).elim
  | 2 => rfl
  | 3 => exact (pl d hd' rfl h).elim
  | 4 => exact (pl e he rfl h).elim
  | 5 => exact (pl f hf rfl h).elim
  | j + 6 =>
    exfalso
    rcases ownAt_or h with h | h | h
    · have h : (hd st)[j]? = some (.own (.stk b' ns)) := h
      rcases hd_slot h with z | ⟨_, z⟩ <;> cases z
    · have h : (hd st)[j]? = some (.io (.stk b' ns)) := h
      rcases hd_slot h with z | ⟨_, z⟩ <;> cases z
    · have h : (hd st)[j]? = some (.hid (.stk b' ns)) := h
      rcases hd_slot h with z | ⟨_, z⟩ <;> cases z
theorem pop_t (ha : plainS a) (hb : plainS b) (hd' : plainS d) (he : plainS e) (hf : plainS f) (hs : st.length < 4) (hz : xs.length ≤ sizeLine) : cPopT 2 (eV a b d e f ((n, xs) :: st)) = some (.imm (.tuple xs), eV a b d e f st) := by
  unfold cPopT
  rw [top_at]
  have ho := only2 (st := (n, xs) :: st) ha hb hd' he hf
  have hl : (nsS ((n, xs) :: st)).length - 1 = st.length := by rw [nsS_len, List.length_cons]; omega
  have hdr : (nsS ((n, xs) :: st)).dropLast = nsS st := by rw [nsS_cons]; simp
  show IF (onlyStk (eV a b d e f ((n, xs) :: st)) 2 ∧ xs.length ≤ sizeLine) (some (Res.imm (.tuple xs), ((eV a b d e f ((n, xs) :: st)).set 2 (.own (.stk 6 (nsS ((n, xs) :: st)).dropLast))).set (6 + ((nsS ((n, xs) :: st)).length - 1)) .no)) = _
  rw [IFP ⟨ho, hz⟩, hl, hdr, set2, set6, hd_cons, mid_set _ _ _ _ _ (hdA_len st), ← hd_no hs]
theorem top_app {v : D} (hz : xs.length < sizeLine) : sTopApp 2 5 (eV a b d e (.imm v) ((n, xs) :: st)) = some (.next, eV a b d e (.imm v) ((n, xs ++ [v]) :: st)) := by
  unfold sTopApp
  rw [top_at]
  have hl : (nsS ((n, xs) :: st)).length - 1 = st.length := by rw [nsS_len, List.length_cons]; omega
  have hn : nsS ((n, xs ++ [v]) :: st) = nsS ((n, xs) :: st) := by rw [nsS_cons, nsS_cons]
  show IF (xs.length < sizeLine) (some (Fl.next, (eV a b d e (.imm v) ((n, xs) :: st)).set (6 + ((nsS ((n, xs) :: st)).length - 1)) (.hid (.lst (xs ++ [v]))))) = _
  rw [IFP hz, hl, set6, hd_cons, mid_set _ _ _ _ _ (hdA_len st)]
  show _ = some (Fl.next, a :: b :: .own (.stk 6 (nsS ((n, xs ++ [v]) :: st))) :: d :: e :: .imm v :: hd ((n, xs ++ [v]) :: st))
  rw [hn, hd_cons]
theorem push_v (hs : st.length < 4) : sPush 2 6 (cV 5) (eV a b d e (.imm (.int (n : Nat))) st) = some (.next, eV a b d e (.imm (.int (n : Nat))) ((n, []) :: st)) := by
  have hz := szl
  have hl := nsS_len st
  have hv : fz (cV 5 (eV a b d e (.imm (.int (n : Nat))) st)) = some (.int (n : Nat), eV a b d e (.imm (.int (n : Nat))) st) := rfl
  have h1 : (eV a b d e (.imm (.int (n : Nat))) st)[2]? = some (.own (.stk 6 (nsS st))) := rfl
  have h2 : (eV a b d e (.imm (.int (n : Nat))) st)[6 + (nsS st).length]? = some .no := by rw [at6, hl, hd_no hs, mid_at _ _ _ _ (hdA_len st)]
  unfold sPush
  rw [hv]
  simp only [h1, h2]
  rw [IFP ⟨trivial, by omega⟩, set2, set6, hl, hd_no hs, mid_set _ _ _ _ _ (hdA_len st)]
  show _ = some (Fl.next, a :: b :: .own (.stk 6 (nsS ((n, []) :: st))) :: d :: e :: .imm (.int (n : Nat)) :: hd ((n, []) :: st))
  rw [nsS_cons, hd_cons]
theorem tv_stk : tV 2 (eV a b d e f st) = some (!st.isEmpty, eV a b d e f st) := by
  have h1 : ownAt (eV a b d e f st) 2 = some (.stk 6 (nsS st)) := rfl
  unfold tV
  rw [h1]
  have hl := nsS_len st
  generalize nsS st = ns at *
  cases st <;> cases ns <;> first | rfl | cases hl
theorem len_stk : cLenv 2 (eV a b d e f st) = some (.imm (.int (st.length : Nat)), eV a b d e f st) := by
  have h1 : ownAt (eV a b d e f st) 2 = some (.stk 6 (nsS st)) := rfl
  unfold cLenv
  rw [h1]
  simp only [nsS_len]
theorem ioOf_hd : ∀ (st : Stk), ioOf (hd st) = none := by
  have rep : ∀ n : Nat, ioOf (List.replicate n .no) = none := by
    intro n
    induction n with
    | zero => rfl
    | succ n ih => rw [List.replicate_succ]; exact ih
  have mp : ∀ (l : List (Nat × List D)) (n : Nat), ioOf (l.map (fun p => Slot.hid (.lst p.2)) ++ List.replicate n .no) = none := by
    intro l n
    induction l with
    | nil => exact rep n
    | cons p l ih => exact ih
  exact fun st => mp _ _
theorem io_eV (ha : plainS a) (hb : plainS b) (hd' : plainS d) (he : plainS e) (hf : plainS f) : ioOf (eV a b d e f st) = none := by
  have st1 : ∀ (s : Slot) (r : Z.Env), plainS s → ioOf (s :: r) = ioOf r := by
    intro s r h
    cases s with
    | no => rfl
    | imm d => rfl
    | _ => exact h.elim
  rw [st1 a _ ha, st1 b _ hb]
  show ioOf (d :: e :: f :: hd st) = none
  rw [st1 d _ hd', st1 e _ he, st1 f _ hf, ioOf_hd]
end
theorem plain_gs (x : Option D) : plainS (gs x) := by cases x <;> trivial
end K48
namespace K48
open PySem PySem.Spec PyProof.Rows Z
local macro_rules | `(tactic| walk_at "z") => `(tactic| simp (disch := first | omega | assumption | decide | (apply IsP.l; assumption)) only [IFP, IFdiv, IFpow, IFT, IFtt, sh_int, sh_bool, sh_none, sh_L, Bool.and_self, Bool.true_and, Bool.and_true, flatD, List.all_cons, List.all_nil, List.length_cons, List.length_nil, decide_true, decide_false, Bool.not_false, Bool.not_true, eqv_int, eqv_L, evSs, evS, evE, evEs, evI, mE, msCons, msNil, Es.isNil, cV, cC, cGl, vOf, cOp, opD, addD, mulD, Z.intD, mulOk_l, mulOk_r, cNeg, cCmp, cmpD, ordD, cNot, cIte, cLst, cTup, cCall, cCallIO, cBi, biD, lenD, listD, tupleD, int1D, int2D, allD, sumD, intsD, boolsD, strD, cIsi, isiD, cPopv, cMe, meD, cRev, revD, sMk, seqD, cLenv, cIxv, cSlv, cIx, ixD, cSl, slD, tE, tV, tNot, truD, esCons, bCons, tCons, tsCons, pOne, iIt, iRng, iEnu, tupOf, itD, rangeD, sAsg, sAsgT, sSetix, sApp, sExt, sExpr, sRet, sRetV, sIf, rdV, rdR, ownAt, putO, put1, ioB_no, ioB_imm, ioB_own, ioB_gs, putT, putR, fz, Res.d, O.d, Slot.o,
  List.getElem?_cons_zero, List.getElem?_cons_succ, List.set_cons_zero, List.set_cons_succ, if_true, if_false, ite_true, ite_false, Bool.false_eq_true, reduceIte])
local macro_rules | `(tactic| walk_at "zs") => `(tactic| simp (disch := first | omega | assumption | decide | (apply IsP.l; assumption)) only [IFP, IFdiv, IFpow, IFT, IFtt, sh_int, sh_bool, sh_none, sh_L, Bool.and_self, Bool.true_and, Bool.and_true, flatD, List.all_cons, List.all_nil, List.length_cons, List.length_nil, decide_true, decide_false, Bool.not_false, Bool.not_true, eqv_int, eqv_L, evSs, evS, evE, evEs, evI, mE, msCons, msNil, Es.isNil, cV, cC, cGl, vOf, cOp, opD, addD, mulD, Z.intD, mulOk_l, mulOk_r, cNeg, cCmp, cmpD, ordD, cNot, cIte, cLst, cTup, cCall, cCallIO, cBi, biD, lenD, listD, tupleD, int1D, int2D, allD, sumD, intsD, boolsD, strD, cIsi, isiD, cPopv, cMe, meD, cRev, revD, sMk, seqD, cLenv, cIxv, cSlv, cIx, ixD, cSl, slD, tE, tV, tNot, truD, esCons, bCons, tCons, tsCons, pOne, iIt, iRng, iEnu, tupOf, itD, rangeD, sAsg, sAsgT, sSetix, sApp, sExt, sExpr, sRet, sRetV, sIf, rdV, rdR, ownAt, putO, put1, ioB_no, ioB_imm, ioB_own, ioB_gs, putT, putR, fz, Res.d, O.d, Slot.o,
  List.getElem?_cons_zero, List.getElem?_cons_succ, List.set_cons_zero, List.set_cons_succ, if_true, if_false, ite_true, ite_false, Bool.false_eq_true, reduceIte, *])
/-! ### value_of: its loops -/
abbrev inC : E := .bop true (.cons (.v 2) (.cons (.bop false (.cons (.cmp .isn (.v 5) .non) (.cons (.cmp .eq (.topN 2) (.int 0)) .nil))) .nil))
abbrev V7 : Ss := .cons (.ife (.bop true (.cons (.not (.v 2)) (.cons (.cmp .isn (.v 5) .non) .nil))) (.cons (.ret (.ite (.cmp .eq (.v 1) (.lenv 0)) (.tup (.cons (.str "value") (.cons (.v 5) .nil))) (.tup (.cons (.str "wrong") (.cons (.v 1) .nil))))) .nil) .nil) .nil
abbrev V6 : Ss := .cons (.while_ inC l_value_of_2) V7
def cl : Stk → D → Stk ⊕ D
  | [], v => .inr v
  | (n, xs) :: st, v => if xs.length + 1 < n then .inl ((n, xs ++ [v]) :: st) else cl st (.tuple (xs ++ [v]))
section
variable {a b d e f : Slot} {n : Nat} {xs : List D} {st : Stk} {v : D} {k : Bool}
theorem t_isn (hv : cmpD .isn v .none = some k) : tE (cCmp .isn (cV 5) (cC .none)) (eV a b d e (.imm v) st) = some (k, eV a b d e (.imm v) st) := by
  show (match fz (match cmpD .isn v .none with | none => none | some r => some (Res.imm (.bool r), eV a b d e (.imm v) st)) with | none => none | some (d, env) => match truD d with | some b => some (b, env) | none => none) = _
  rw [hv]
  rfl
theorem t_n0 : tE (cCmp .eq (cTopN 2) (cC (.int 0))) (eV a b d e f ((n, xs) :: st)) = some (decide ((n : Int) = 0), eV a b d e f ((n, xs) :: st)) := by
  have h : fz (cTopN 2 (eV a b d e f ((n, xs) :: st))) = some (.int (n : Nat), eV a b d e f ((n, xs) :: st)) := by rw [top_n]; rfl
  unfold tE cCmp
  rw [h]
  walk_at "z"
theorem t_lt : tE (cCmp .lt (cTopLen 2) (cTopN 2)) (eV a b d e f ((n, xs) :: st)) = some (decide ((xs.length : Int) < (n : Int)), eV a b d e f ((n, xs) :: st)) := by
  have h : fz (cTopN 2 (eV a b d e f ((n, xs) :: st))) = some (.int (n : Nat), eV a b d e f ((n, xs) :: st)) := by rw [top_n]; rfl
  have h2 : fz (cTopLen 2 (eV a b d e f ((n, xs) :: st))) = some (.int (xs.length : Nat), eV a b d e f ((n, xs) :: st)) := by rw [top_len]; rfl
  unfold tE cCmp
  rw [h2]
  simp only []
  rw [h]
  walk_at "z"
theorem in_cond (Γ : Fn) : (evE Γ inC).t = tCons true (tV 2) (tCons false (tE (cCmp .isn (cV 5) (cC .none))) (tE (cCmp .eq (cTopN 2) (cC (.int 0))))) := rfl
theorem in_nil (Γ : Fn) : (evE Γ inC).t (eV a b d e f []) = some (false, eV a b d e f []) := by
  rw [in_cond]
  unfold tCons
  rw [tv_stk]
  rfl
theorem in_val (Γ : Fn) (p : Nat × List D) (hv : cmpD .isn v .none = some true) : (evE Γ inC).t (eV a b d e (.imm v) (p :: st)) = some (true, eV a b d e (.imm v) (p :: st)) := by
  rw [in_cond]
  unfold tCons
  rw [tv_stk]
  show tCons false (tE (cCmp .isn (cV 5) (cC .none))) (tE (cCmp .eq (cTopN 2) (cC (.int 0)))) (eV a b d e (.imm v) (p :: st)) = _
  unfold tCons
  rw [t_isn hv]
  rfl
theorem in_none (Γ : Fn) : (evE Γ inC).t (eV a b d e (.imm .none) ((n, xs) :: st)) = some (decide ((n : Int) = 0), eV a b d e (.imm .none) ((n, xs) :: st)) := by
  rw [in_cond]
  unfold tCons
  rw [tv_stk]
  show tCons false (tE (cCmp .isn (cV 5) (cC .none))) (tE (cCmp .eq (cTopN 2) (cC (.int 0)))) (eV a b d e (.imm .none) ((n, xs) :: st)) = _
  unfold tCons
  rw [t_isn (k := false) rfl]
  exact t_n0
theorem ev_while (Γ : Fn) (c : E) (bb : Ss) : evS Γ (.while_ c bb) = whileS (evE Γ c).t (evSs Γ bb) := by
  simp only [evS]
/-- behind the inner loop: the stack is not empty -/
theorem v7_next {Γ : Fn} {Ψ : Fl → Z.Env → Prop} (p : Nat × List D) (h : Ψ .next (eV a b d e f (p :: st))) : W (evSs Γ V7 (eV a b d e f (p :: st))) Ψ := by
  refine W_cons (W_if (k := false) (env' := eV a b d e f (p :: st)) ?_ (fun z => nomatch z) (fun _ => W_nil (W_nil h)))
  show tCons true (tNot (tV 2)) (tE (cCmp .isn (cV 5) (cC .none))) (eV a b d e f (p :: st)) = _
  unfold tCons tNot
  rw [tv_stk]
  rfl
def outV (w : List Int) (q : Nat) (v : D) : D := if q = w.length then .tuple [.str "value", v] else .tuple [.str "wrong", .int (q : Nat)]
theorem v7_ret {Γ : Fn} {Ψ : Fl → Z.Env → Prop} (w : List Int) (q : Nat) (hv : cmpD .isn v .none = some true) (h : Ψ (.ret (.imm (outV w q v))) (eV (.imm (.list (L w))) (.imm (.int (q : Nat))) d e (.imm v) [])) :
    W (evSs Γ V7 (eV (.imm (.list (L w))) (.imm (.int (q : Nat))) d e (.imm v) [])) Ψ := by
  have hs := szl
  have hL := L_len w
  refine W_cons (W_if (k := true) (env' := eV (.imm (.list (L w))) (.imm (.int (q : Nat))) d e (.imm v) []) ?_ (fun _ => ?_) (fun z => nomatch z))
  · show tCons true (tNot (tV 2)) (tE (cCmp .isn (cV 5) (cC .none))) (eV (.imm (.list (L w))) (.imm (.int (q : Nat))) d e (.imm v) []) = _
    unfold tCons tNot
    rw [tv_stk]
    exact t_isn hv
  · refine W_ret (env' := eV (.imm (.list (L w))) (.imm (.int (q : Nat))) d e (.imm v) []) ?_ h
    unfold outV
    generalize nsS [] = ns
    generalize hd [] = H
    by_cases hq : q = w.length
    · have d1 : decide (((q : Nat) : Int) = ((L w).length : Nat)) = true := decide_eq_true (by omega)
      rw [if_pos hq]
      walk_at "z"
      rw [d1]
      walk_at "z"
    · have d1 : decide (((q : Nat) : Int) = ((L w).length : Nat)) = false := decide_eq_false (by omega)
      rw [if_neg hq]
      walk_at "z"
      rw [d1]
      walk_at "z"
end
abbrev Fin (w : List Int) (q : Nat) (d e : Slot) (Ψ : Fl → Z.Env → Prop) (r : Stk ⊕ D) : Prop := match r with
  | .inr v => ∀ x, ioOf x = none → Ψ (.ret (.imm (outV w q v))) x
  | .inl st => Ψ .next (eV (.imm (.list (L w))) (.imm (.int (q : Nat))) d e (.imm .none) st)
theorem inner (Γ : Fn) (Ψ : Fl → Z.Env → Prop) (w : List Int) (q : Nat) (d e : Slot) (hd' : plainS d) (he : plainS e) : ∀ (st : Stk) (v : D), cmpD .isn v .none = some true → st.length ≤ 4 → (∀ p ∈ st, p.2.length < 5000) → Fin w q d e Ψ (cl st v) →
    W (whileS (evE Γ inC).t (evSs Γ l_value_of_2) (eV (.imm (.list (L w))) (.imm (.int (q : Nat))) d e (.imm v) st)) (Kn (evSs Γ V7) Ψ)
  | [], v, hv, _, _, h => by
    refine W_whileI (W.eq (in_nil Γ) ?_)
    show W (evSs Γ V7 _) Ψ
    exact v7_ret w q hv (h _ (io_eV trivial trivial hd' he trivial))
  | (n, xs) :: st, v, hv, hl, hz, h => by
    have hs := szl
    have hx := hz (n, xs) List.mem_cons_self
    have hx : xs.length < 5000 := hx
    rw [List.length_cons] at hl
    refine W_whileI (W.eq (in_val Γ _ hv) ?_)
    show W (evSs Γ l_value_of_2 _) _
    unfold l_value_of_2
    refine W_cons (W_if (k := true) (env' := eV (.imm (.list (L w))) (.imm (.int (q : Nat))) d e (.imm v) ((n, xs) :: st)) (t_isn hv) (fun _ => ?_) (fun z => nomatch z))
    refine W_next (env' := eV (.imm (.list (L w))) (.imm (.int (q : Nat))) d e (.imm v) ((n, xs ++ [v]) :: st)) (by simp only [evS]; exact top_app (by omega)) ?_
    refine W_next (env' := eV (.imm (.list (L w))) (.imm (.int (q : Nat))) d e (.imm .none) ((n, xs ++ [v]) :: st)) ?_ (W_nil ?_)
    · generalize nsS ((n, xs ++ [v]) :: st) = ns
      generalize hd ((n, xs ++ [v]) :: st) = H
      walk_at "z"
    show W (evSs Γ _ _) _
    unfold cl at h
    have hxl : (xs ++ [v]).length = xs.length + 1 := by simp
    by_cases hn : xs.length + 1 < n
    · rw [if_pos hn] at h
      have d1 : decide (((xs ++ [v]).length : Int) < (n : Int)) = true := decide_eq_true (by omega)
      refine W_cons (W_if (k := true) (env' := eV (.imm (.list (L w))) (.imm (.int (q : Nat))) d e (.imm .none) ((n, xs ++ [v]) :: st)) (by rw [← d1]; exact t_lt) (fun _ => ?_) (fun z => nomatch z))
      refine W_brk (env' := eV (.imm (.list (L w))) (.imm (.int (q : Nat))) d e (.imm .none) ((n, xs ++ [v]) :: st)) (by simp only [evS]) ?_
      show W (evSs Γ V7 _) Ψ
      exact v7_next _ h
    · rw [if_neg hn] at h
      have d1 : decide (((xs ++ [v]).length : Int) < (n : Int)) = false := decide_eq_false (by omega)
      refine W_cons (W_if (k := false) (env' := eV (.imm (.list (L w))) (.imm (.int (q : Nat))) d e (.imm .none) ((n, xs ++ [v]) :: st)) (by rw [← d1]; exact t_lt) (fun z => nomatch z) (fun _ => W_nil ?_))
      refine W_next (env' := eV (.imm (.list (L w))) (.imm (.int (q : Nat))) d e (.imm (.tuple (xs ++ [v]))) st) ?_ (W_nil ?_)
      · have hp := pop_t (a := .imm (.list (L w))) (b := .imm (.int (q : Nat))) (d := d) (e := e) (f := .imm .none) (n := n) (xs := xs ++ [v]) (st := st) trivial trivial hd' he trivial (by omega) (by omega)
        simp only [evS, evE]
        unfold sAsg
        rw [hp]
        generalize nsS st = ns
        generalize hd st = H
        walk_at "z"
      · exact inner Γ Ψ w q d e hd' he st (.tuple (xs ++ [v])) rfl (by omega) (fun p hp => hz p (List.mem_cons_of_mem _ hp)) h
end K48
namespace K48
open PySem PySem.Spec PyProof.Rows Z
local macro_rules | `(tactic| walk_at "z") => `(tactic| simp (disch := first | omega | assumption | decide | (apply IsP.l; assumption)) only [IFP, IFdiv, IFpow, IFT, IFtt, sh_int, sh_bool, sh_none, sh_L, Bool.and_self, Bool.true_and, Bool.and_true, flatD, List.all_cons, List.all_nil, List.length_cons, List.length_nil, decide_true, decide_false, Bool.not_false, Bool.not_true, eqv_int, eqv_L, evSs, evS, evE, evEs, evI, mE, msCons, msNil, Es.isNil, cV, cC, cGl, vOf, cOp, opD, addD, mulD, Z.intD, mulOk_l, mulOk_r, cNeg, cCmp, cmpD, ordD, cNot, cIte, cLst, cTup, cCall, cCallIO, cBi, biD, lenD, listD, tupleD, int1D, int2D, allD, sumD, intsD, boolsD, strD, cIsi, isiD, cPopv, cMe, meD, cRev, revD, sMk, seqD, cLenv, cIxv, cSlv, cIx, ixD, cSl, slD, tE, tV, tNot, truD, esCons, bCons, tCons, tsCons, pOne, iIt, iRng, iEnu, tupOf, itD, rangeD, sAsg, sAsgT, sSetix, sApp, sExt, sExpr, sRet, sRetV, sIf, rdV, rdR, ownAt, putO, put1, ioB_no, ioB_imm, ioB_own, ioB_gs, putT, putR, fz, Res.d, O.d, Slot.o,
  List.getElem?_cons_zero, List.getElem?_cons_succ, List.set_cons_zero, List.set_cons_succ, if_true, if_false, ite_true, ite_false, Bool.false_eq_true, reduceIte])
local macro_rules | `(tactic| walk_at "zs") => `(tactic| simp (disch := first | omega | assumption | decide | (apply IsP.l; assumption)) only [IFP, IFdiv, IFpow, IFT, IFtt, sh_int, sh_bool, sh_none, sh_L, Bool.and_self, Bool.true_and, Bool.and_true, flatD, List.all_cons, List.all_nil, List.length_cons, List.length_nil, decide_true, decide_false, Bool.not_false, Bool.not_true, eqv_int, eqv_L, evSs, evS, evE, evEs, evI, mE, msCons, msNil, Es.isNil, cV, cC, cGl, vOf, cOp, opD, addD, mulD, Z.intD, mulOk_l, mulOk_r, cNeg, cCmp, cmpD, ordD, cNot, cIte, cLst, cTup, cCall, cCallIO, cBi, biD, lenD, listD, tupleD, int1D, int2D, allD, sumD, intsD, boolsD, strD, cIsi, isiD, cPopv, cMe, meD, cRev, revD, sMk, seqD, cLenv, cIxv, cSlv, cIx, ixD, cSl, slD, tE, tV, tNot, truD, esCons, bCons, tCons, tsCons, pOne, iIt, iRng, iEnu, tupOf, itD, rangeD, sAsg, sAsgT, sSetix, sApp, sExt, sExpr, sRet, sRetV, sIf, rdV, rdR, ownAt, putO, put1, ioB_no, ioB_imm, ioB_own, ioB_gs, putT, putR, fz, Res.d, O.d, Slot.o,
  List.getElem?_cons_zero, List.getElem?_cons_succ, List.set_cons_zero, List.set_cons_succ, if_true, if_false, ite_true, ite_false, Bool.false_eq_true, reduceIte, *])
/-! ### value_of: a value's bytes are read -/
abbrev V5 : Ss := .cons (.ife (.cmp .eq (.v 3) (.int 2)) (.cons (.push 2 6 (.v 5)) (.cons (.asg 5 .non) .nil)) .nil) V6
abbrev V4 : Ss := .cons (.ife (.cmp .eq (.v 3) (.int 0)) (.cons (.asg 5 (.ite (.cmp .eq (.op .mod (.v 5) (.int 2)) (.int 0)) (.op .fdiv (.v 5) (.int 2)) (.neg (.op .fdiv (.op .add (.v 5) (.int 1)) (.int 2))))) .nil) .nil) V5
section
variable {m : Nat} {w : List Int} {st : Stk} {p q : Nat} {t : Int} {u V : D} {Ψ : Fl → Z.Env → Prop}
abbrev eM (w : List Int) (p : Nat) (a b c : Slot) (st : Stk) : Z.Env := eV (.imm (.list (L w))) (.imm (.int (p : Nat))) a b c st
theorem v_start (x3 x4 x5 : Option D) (hl : st.length ≤ 4) (ht : 0 ≤ t ∧ t ≤ 2) (hw : w[p]? = some t) (hr : run tb.T m i_read_one none [.list (L w), .int (p : Nat)] = some (.imm (.tuple [u, V, .int (q : Nat)]), none)) (hV : cmpD .is V .none = some false)
    (k : W (evSs (run tb.T m) V4 (eM w q (.imm (.int t)) (.imm u) (.imm V) st)) Ψ) : W (evSs (run tb.T m) l_value_of_1 (eM w p (gs x3) (gs x4) (gs x5) st)) Ψ := by
  have hs := szl
  have hL := L_len w
  have hp := (List.getElem?_eq_some_iff.mp hw).1
  have g := at_nat w p t hw
  have hn := nsS_len st
  unfold eM eV at k ⊢
  generalize nsS st = ns at k hn ⊢
  generalize hd st = H at k ⊢
  have d1 : decide (((L w).length : Int) ≤ ((p : Nat) : Int)) = false := decide_eq_false (by omega)
  have d2 : decide ((2 : Int) < t) = false := decide_eq_false (by omega)
  have d3 : decide ((60 : Int) ≤ ((ns.length : Nat) : Int)) = false := decide_eq_false (by omega)
  unfold l_value_of_1
  refine W_cons (W_if (k := false) (env' := .imm (.list (L w)) :: .imm (.int (p : Nat)) :: .own (.stk 6 ns) :: gs x3 :: gs x4 :: gs x5 :: H) ?_ (fun z => nomatch z) (fun _ => W_nil ?_))
  · walk_at "z"
    rw [d1]
    walk_at "z"
    rw [g]
    walk_at "z"
    rw [d2]
    walk_at "z"
    rw [g]
    walk_at "z"
    cases hd2 : decide (t = 2) with
    | false => rfl
    | true =>
      walk_at "z"
      rw [d3]
  refine W_next (env' := .imm (.list (L w)) :: .imm (.int (p : Nat)) :: .own (.stk 6 ns) :: .imm (.int t) :: gs x4 :: gs x5 :: H) ?_ ?_
  · walk_at "z"
    rw [g]
    cases x3 <;> rfl
  refine W_next (env' := .imm (.list (L w)) :: .imm (.int (q : Nat)) :: .own (.stk 6 ns) :: .imm (.int t) :: .imm u :: .imm V :: H) ?_ ?_
  · walk_at "z"
    rw [hr]
    cases x4 <;> cases x5 <;> rfl
  refine W_cons (W_if (k := false) (env' := .imm (.list (L w)) :: .imm (.int (q : Nat)) :: .own (.stk 6 ns) :: .imm (.int t) :: .imm u :: .imm V :: H) ?_ (fun z => nomatch z) (fun _ => W_nil k))
  show (match fz (match cmpD .is V .none with | none => none | some r => some (Res.imm (.bool r), Slot.imm (.list (L w)) :: .imm (.int (q : Nat)) :: .own (.stk 6 ns) :: .imm (.int t) :: .imm u :: .imm V :: H)) with | none => none | some (d, env) => match truD d with | some b => some (b, env) | none => none) = _
  rw [hV]
  rfl
end
section
variable {m : Nat} {w : List Int} {st : Stk} {q : Nat} {u v : D} {Ψ : Fl → Z.Env → Prop}
theorem v_str (hv : cmpD .isn v .none = some true) (hl : st.length ≤ 4) (hz : ∀ p ∈ st, p.2.length < 5000) (h : Fin w q (.imm (.int 1)) (.imm u) Ψ (cl st v)) : W (evSs (run tb.T m) V4 (eM w q (.imm (.int 1)) (.imm u) (.imm v) st)) Ψ := by
  refine W_cons (W_if (k := false) (env' := eM w q (.imm (.int 1)) (.imm u) (.imm v) st) ?_ (fun z => nomatch z) (fun _ => W_nil ?_))
  · unfold eM eV
    generalize nsS st = ns
    generalize hd st = H
    walk_at "z" <;> rfl
  refine W_cons (W_if (k := false) (env' := eM w q (.imm (.int 1)) (.imm u) (.imm v) st) ?_ (fun z => nomatch z) (fun _ => W_nil ?_))
  · unfold eM eV
    generalize nsS st = ns
    generalize hd st = H
    walk_at "z" <;> rfl
  refine W_cons ?_
  rw [ev_while]
  exact inner _ Ψ w q (.imm (.int 1)) (.imm u) trivial trivial st v hv hl hz h
theorem v_int (i : Int) (hl : st.length ≤ 4) (hz : ∀ p ∈ st, p.2.length < 5000) (h : Fin w q (.imm (.int 0)) (.imm u) Ψ (cl st (.int i))) : W (evSs (run tb.T m) V4 (eM w q (.imm (.int 0)) (.imm u) (.imm (.int (zig i : Nat))) st)) Ψ := by
  refine W_cons (W_if (k := true) (env' := eM w q (.imm (.int 0)) (.imm u) (.imm (.int (zig i : Nat))) st) ?_ (fun _ => ?_) (fun z => nomatch z))
  · unfold eM eV
    generalize nsS st = ns
    generalize hd st = H
    walk_at "z" <;> rfl
  refine W_next (env' := eM w q (.imm (.int 0)) (.imm u) (.imm (.int i)) st) ?_ (W_nil ?_)
  · unfold eM eV
    generalize nsS st = ns
    generalize hd st = H
    by_cases h0 : 0 ≤ i
    · have z := zigP h0
      have e1 : ((zig i : Nat) : Int).fmod 2 = 0 := by rw [fm _ (by decide)]; omega
      have e2 : ((zig i : Nat) : Int).fdiv 2 = i := by rw [fd _ (by decide)]; omega
      have d1 : decide ((0 : Int) = 0) = true := rfl
      walk_at "z"
      rw [e1]
      walk_at "z"
      rw [e2]
    · have z := zigN h0
      have e1 : ((zig i : Nat) : Int).fmod 2 = 1 := by rw [fm _ (by decide)]; omega
      have e2 : -(((zig i : Nat) : Int) + 1).fdiv 2 = i := by rw [fd _ (by decide)]; omega
      have d1 : decide ((1 : Int) = 0) = false := rfl
      walk_at "z"
      rw [e1, d1]
      walk_at "z"
      rw [e2]
  refine W_cons (W_if (k := false) (env' := eM w q (.imm (.int 0)) (.imm u) (.imm (.int i)) st) ?_ (fun z => nomatch z) (fun _ => W_nil ?_))
  · unfold eM eV
    generalize nsS st = ns
    generalize hd st = H
    walk_at "z" <;> rfl
  refine W_cons ?_
  rw [ev_while]
  exact inner _ Ψ w q (.imm (.int 0)) (.imm u) trivial trivial st (.int i) rfl hl hz h
theorem v_tup (n : Nat) (hl : st.length < 4) (h : W (whileS (evE (run tb.T m) inC).t (evSs (run tb.T m) l_value_of_2) (eM w q (.imm (.int 2)) (.imm u) (.imm .none) ((n, []) :: st))) (Kn (evSs (run tb.T m) V7) Ψ)) :
    W (evSs (run tb.T m) V4 (eM w q (.imm (.int 2)) (.imm u) (.imm (.int (n : Nat))) st)) Ψ := by
  refine W_cons (W_if (k := false) (env' := eM w q (.imm (.int 2)) (.imm u) (.imm (.int (n : Nat))) st) ?_ (fun z => nomatch z) (fun _ => W_nil ?_))
  · unfold eM eV
    generalize nsS st = ns
    generalize hd st = H
    walk_at "z" <;> rfl
  refine W_cons (W_if (k := true) (env' := eM w q (.imm (.int 2)) (.imm u) (.imm (.int (n : Nat))) st) ?_ (fun _ => ?_) (fun z => nomatch z))
  · unfold eM eV
    generalize nsS st = ns
    generalize hd st = H
    walk_at "z" <;> rfl
  refine W_next (env' := eM w q (.imm (.int 2)) (.imm u) (.imm (.int (n : Nat))) ((n, []) :: st)) (by simp only [evS, evE]; exact push_v hl) ?_
  refine W_next (env' := eM w q (.imm (.int 2)) (.imm u) (.imm .none) ((n, []) :: st)) ?_ (W_nil ?_)
  · unfold eM eV
    generalize nsS ((n, []) :: st) = ns
    generalize hd ((n, []) :: st) = H
    walk_at "z"
  refine W_cons ?_
  rw [ev_while]
  exact h
end
/-- the main loop -/
abbrev MW (m : Nat) (w : List Int) (Φ : Fl → Z.Env → Prop) (p : Nat) (a b c : Slot) (st : Stk) : Prop := W (whileS (evE (run tb.T m) (.bl true)).t (evSs (run tb.T m) l_value_of_1) (eM w p a b c st)) Φ
abbrev FinM (m : Nat) (w : List Int) (Φ : Fl → Z.Env → Prop) (q : Nat) (r : Stk ⊕ D) : Prop := match r with
  | .inr v => ∀ x, ioOf x = none → Φ (.ret (.imm (outV w q v))) x
  | .inl st => ∀ t u : D, MW m w Φ q (.imm t) (.imm u) (.imm .none) st
theorem fin_of {m : Nat} {w : List Int} {Φ : Fl → Z.Env → Prop} {q : Nat} {r : Stk ⊕ D} (h : FinM m w Φ q r) (t u : D) : Fin w q (.imm t) (.imm u) (Lp (fun e2 => W (whileS (evE (run tb.T m) (.bl true)).t (evSs (run tb.T m) l_value_of_1) e2) Φ) Φ) r := by
  cases r with
  | inl st => exact h t u
  | inr v => exact h
theorem mw_turn {m : Nat} {w : List Int} {Φ : Fl → Z.Env → Prop} {p : Nat} {a b c : Slot} {st : Stk} (h : W (evSs (run tb.T m) l_value_of_1 (eM w p a b c st)) (Lp (fun e2 => W (whileS (evE (run tb.T m) (.bl true)).t (evSs (run tb.T m) l_value_of_1) e2) Φ) Φ)) : MW m w Φ p a b c st :=
  W_whileI (W.eq (a := true) (e := eM w p a b c st) rfl h)
theorem read_v (m : Nat) (w : List Int) (Φ : Fl → Z.Env → Prop) : ∀ (n : Nat) (d : D), Pl n d → ∀ (st : Stk) (p : Nat) (suf : List Int), st.length + n ≤ 4 → (∀ p ∈ st, p.2.length < 5000) → (enc d).length ≤ 5000 → w.drop p = enc d ++ suf →
    FinM (m + 3) w Φ (p + (enc d).length) (cl st d) → ∀ x3 x4 x5 : Option D, MW (m + 3) w Φ p (gs x3) (gs x4) (gs x5) st := by
  have atom : ∀ (n : Nat) (d : D), Pl n d → (∀ xs, d ≠ .tuple xs) → ∀ (st : Stk) (p : Nat) (suf : List Int), st.length ≤ 4 → (∀ p ∈ st, p.2.length < 5000) → (enc d).length ≤ 5000 → w.drop p = enc d ++ suf →
      FinM (m + 3) w Φ (p + (enc d).length) (cl st d) → ∀ x3 x4 x5 : Option D, MW (m + 3) w Φ p (gs x3) (gs x4) (gs x5) st := by
    intro n d h ht st p suf hl hz he hw hf x3 x4 x5
    refine mw_turn ?_
    cases h with
    | tup n xs h => exact absurd rfl (ht xs)
    | int _ i h1 h2 =>
      rw [enc] at he hw hf
      rw [List.cons_append] at hw
      obtain ⟨a1, a2, a3⟩ := drop_at hw
      have hr := f_read_one2 m w suf p (zig i) 0 (.inl rfl) hw
      rw [List.length_cons] at hf
      have e : p + ((nb (zig i)).length + 1) = p + 1 + (nb (zig i)).length := by omega
      rw [e] at hf
      exact v_start x3 x4 x5 hl (by decide) a1 hr rfl (v_int i hl hz (fin_of hf _ _))
    | str _ s h =>
      rw [enc] at he hw hf
      rw [List.cons_append, List.append_assoc] at hw
      obtain ⟨a1, a2, a3⟩ := drop_at hw
      rw [List.length_cons, List.length_append, List.length_map, slen] at he hf
      have hr := f_read_one1 m w suf p s h (by omega) hw
      have e : p + ((nb s.length).length + s.length + 1) = p + 1 + (nb s.length).length + s.length := by omega
      rw [e] at hf
      exact v_start x3 x4 x5 hl (by decide) a1 hr rfl (v_str rfl hl hz (fin_of hf _ _))
  intro n
  induction n with
  | zero =>
    intro d h st p suf hl hz he hw hf
    exact atom 0 d h (fun xs z => by subst z; cases h) st p suf (by omega) hz he hw hf
  | succ n ih =>
    intro d h st p suf hl hz he hw hf x3 x4 x5
    by_cases ht : ∃ xs, d = .tuple xs
    · obtain ⟨xs, rfl⟩ := ht
      have hx : ∀ x ∈ xs, Pl n x := by cases h; assumption
      have hge := encs_ge hx
      refine mw_turn ?_
      rw [enc] at he hw hf
      rw [List.cons_append, List.append_assoc] at hw
      obtain ⟨a1, a2, a3⟩ := drop_at hw
      have hr := f_read_one2 m w (encs xs ++ suf) p xs.length 2 (.inr rfl) hw
      rw [List.length_cons, List.length_append] at he hf
      have e : p + ((nb xs.length).length + (encs xs).length + 1) = p + 1 + (nb xs.length).length + (encs xs).length := by omega
      rw [e] at hf
      have hdr : w.drop (p + 1 + (nb xs.length).length) = encs xs ++ suf := by
        rw [← List.drop_drop, a2, List.drop_left']
        rfl
      generalize p + 1 + (nb xs.length).length = q at *
      refine v_start x3 x4 x5 (by omega) (by decide) a1 hr rfl (v_tup xs.length (by omega) ?_)
      cases xs with
      | nil =>
        -- an empty tuple is closed at once
        rw [encs] at hf
        refine W_whileI (W.eq (a := true) (e := eM w q (.imm (.int 2)) (.imm (.str "number")) (.imm .none) (([].length, []) :: st)) (in_none _) ?_)
        show W (evSs _ l_value_of_2 _) _
        unfold l_value_of_2
        refine W_cons (W_if (k := false) (env' := eM w q (.imm (.int 2)) (.imm (.str "number")) (.imm .none) (([].length, []) :: st)) (t_isn (v := .none) (k := false) rfl) (fun z => nomatch z) (fun _ => W_nil ?_))
        refine W_cons (W_if (k := false) (env' := eM w q (.imm (.int 2)) (.imm (.str "number")) (.imm .none) (([].length, []) :: st)) t_lt (fun z => nomatch z) (fun _ => W_nil ?_))
        refine W_next (env' := eM w q (.imm (.int 2)) (.imm (.str "number")) (.imm (.tuple [])) st) ?_ (W_nil ?_)
        · have hp := pop_t (a := .imm (.list (L w))) (b := .imm (.int (q : Nat))) (d := .imm (.int 2)) (e := .imm (.str "number")) (f := .imm .none) (n := [].length (α := D)) (xs := []) (st := st) trivial trivial trivial trivial trivial (by omega) (by simp)
          simp only [evS, evE]
          unfold sAsg
          rw [hp]
          unfold eM eV
          generalize nsS st = ns
          generalize hd st = H
          walk_at "z"
        · exact inner _ _ w q (.imm (.int 2)) (.imm (.str "number")) trivial trivial st (.tuple []) rfl (by omega) hz (fin_of hf _ _)
      | cons x0 xr =>
        -- its members are read one by one
        have mem : ∀ (ms acc : List D) (q : Nat) (suf : List Int), ms ≠ [] → acc ++ ms = x0 :: xr → w.drop q = encs ms ++ suf → FinM (m + 3) w Φ (q + (encs ms).length) (cl st (.tuple (x0 :: xr))) → ∀ x3 x4 x5 : Option D, MW (m + 3) w Φ q (gs x3) (gs x4) (gs x5) (((x0 :: xr).length, acc) :: st) := by
          intro ms
          induction ms with
          | nil => exact fun acc q suf hne => absurd rfl hne
          | cons d ms ihm =>
            intro acc q suf _ hall hw hf x3 x4 x5
            have hlen := congrArg List.length hall
            rw [List.length_append, List.length_cons] at hlen
            have hd : d ∈ x0 :: xr := by rw [← hall]; simp
            have hen : (encs (x0 :: xr)).length = (encs acc).length + ((enc d).length + (encs ms).length) := by
              rw [← hall, encs_app, encs, List.length_append, List.length_append]
            rw [encs, List.append_assoc] at hw
            have hpos := enc_pos (hx d hd)
            have hza : acc.length < 5000 := by
              have := encs_ge hx
              omega
            refine ih d (hx d hd) (((x0 :: xr).length, acc) :: st) q (encs ms ++ suf) (by rw [List.length_cons]; omega) (fun p hp => ?_) (by omega) hw ?_ x3 x4 x5
            · rcases List.mem_cons.mp hp with hp | hp
              · rw [hp]
                exact hza
              · exact hz p hp
            · have hw2 : w.drop (q + (enc d).length) = encs ms ++ suf := by
                rw [← List.drop_drop, hw, List.drop_left']
                rfl
              unfold cl
              cases ms with
              | nil =>
                have hl2 : acc.length + 1 = (x0 :: xr).length := hlen
                rw [if_neg (by omega), hall]
                rw [encs, encs, List.append_nil] at hf
                exact hf
              | cons d2 ms =>
                rw [List.length_cons] at hlen
                rw [if_pos (by omega)]
                intro t u
                refine ihm (acc ++ [d]) (q + (enc d).length) suf (by simp) (by rw [List.append_assoc]; exact hall) hw2 ?_ (some t) (some u) (some .none)
                rw [encs, List.length_append] at hf
                rw [Nat.add_assoc]
                exact hf
        refine W_whileI (W.eq (a := false) (e := eM w q (.imm (.int 2)) (.imm (.str "number")) (.imm .none) (((x0 :: xr).length, []) :: st)) ?_ ?_)
        · have d0 : decide ((((x0 :: xr).length : Nat) : Int) = 0) = false := decide_eq_false (by rw [List.length_cons]; omega)
          rw [← d0]
          exact in_none _
        · show W (evSs _ V7 _) _
          exact v7_next _ (mem (x0 :: xr) [] q suf (by simp) rfl hdr hf (some (.int 2)) (some (.str "number")) (some .none))
    · exact atom (n + 1) d h (fun xs z => ht ⟨xs, z⟩) st p suf (by omega) hz he hw hf x3 x4 x5
theorem f_value_of (k n : Nat) (d : D) (h : Pl n d) (hn : n ≤ 4) (hl : (enc d).length ≤ 5000) : run tb.T (k + 4) i_value_of none [.list (L (enc d))] = some (.imm (.tuple [.str "value", d]), none) := by
  show runD (run tb.T (k + 3)) 10 b_value_of none [.list (L (enc d))] = _
  refine runD_of ?_
  show W (evSs _ b_value_of [.imm (.list (L (enc d))), .no, .no, .no, .no, .no, .no, .no, .no, .no]) _
  unfold b_value_of
  refine W_next (env' := [.imm (.list (L (enc d))), .imm (.int ((0 : Nat) : Int)), .no, .no, .no, .no, .no, .no, .no, .no]) (by walk_at "z" <;> rfl) ?_
  refine W_next (env' := eM (enc d) 0 .no .no .no []) (by walk_at "z" <;> rfl) ?_
  refine W_cons ?_
  rw [ev_while]
  refine read_v k (enc d) _ n d h [] 0 [] (by simpa using hn) (fun p hp => by cases hp) hl (by simp) ?_ none none none
  intro x hx
  refine ⟨?_, hx⟩
  show Res.imm (outV (enc d) (0 + (enc d).length) d) = _
  unfold outV
  rw [if_pos (by omega)]
end K48
namespace K48
open PySem PySem.Spec PyProof.Rows Z
local macro_rules | `(tactic| walk_at "z") => `(tactic| simp (disch := first | omega | assumption | decide | (apply IsP.l; assumption)) only [IFP, IFdiv, IFpow, IFT, IFtt, sh_int, sh_bool, sh_none, sh_L, Bool.and_self, Bool.true_and, Bool.and_true, flatD, List.all_cons, List.all_nil, List.length_cons, List.length_nil, decide_true, decide_false, Bool.not_false, Bool.not_true, eqv_int, eqv_L, evSs, evS, evE, evEs, evI, mE, msCons, msNil, Es.isNil, cV, cC, cGl, vOf, cOp, opD, addD, mulD, Z.intD, mulOk_l, mulOk_r, cNeg, cCmp, cmpD, ordD, cNot, cIte, cLst, cTup, cCall, cCallIO, cBi, biD, lenD, listD, tupleD, int1D, int2D, allD, sumD, intsD, boolsD, strD, cIsi, isiD, cPopv, cMe, meD, cRev, revD, sMk, seqD, cLenv, cIxv, cSlv, cIx, ixD, cSl, slD, tE, tV, tNot, truD, esCons, bCons, tCons, tsCons, pOne, iIt, iRng, iEnu, tupOf, itD, rangeD, sAsg, sAsgT, sSetix, sApp, sExt, sExpr, sRet, sRetV, sIf, rdV, rdR, ownAt, putO, put1, ioB_no, ioB_imm, ioB_own, ioB_gs, putT, putR, fz, Res.d, O.d, Slot.o,
  List.getElem?_cons_zero, List.getElem?_cons_succ, List.set_cons_zero, List.set_cons_succ, if_true, if_false, ite_true, ite_false, Bool.false_eq_true, reduceIte])
local macro_rules | `(tactic| walk_at "zs") => `(tactic| simp (disch := first | omega | assumption | decide | (apply IsP.l; assumption)) only [IFP, IFdiv, IFpow, IFT, IFtt, sh_int, sh_bool, sh_none, sh_L, Bool.and_self, Bool.true_and, Bool.and_true, flatD, List.all_cons, List.all_nil, List.length_cons, List.length_nil, decide_true, decide_false, Bool.not_false, Bool.not_true, eqv_int, eqv_L, evSs, evS, evE, evEs, evI, mE, msCons, msNil, Es.isNil, cV, cC, cGl, vOf, cOp, opD, addD, mulD, Z.intD, mulOk_l, mulOk_r, cNeg, cCmp, cmpD, ordD, cNot, cIte, cLst, cTup, cCall, cCallIO, cBi, biD, lenD, listD, tupleD, int1D, int2D, allD, sumD, intsD, boolsD, strD, cIsi, isiD, cPopv, cMe, meD, cRev, revD, sMk, seqD, cLenv, cIxv, cSlv, cIx, ixD, cSl, slD, tE, tV, tNot, truD, esCons, bCons, tCons, tsCons, pOne, iIt, iRng, iEnu, tupOf, itD, rangeD, sAsg, sAsgT, sSetix, sApp, sExt, sExpr, sRet, sRetV, sIf, rdV, rdR, ownAt, putO, put1, ioB_no, ioB_imm, ioB_own, ioB_gs, putT, putR, fz, Res.d, O.d, Slot.o,
  List.getElem?_cons_zero, List.getElem?_cons_succ, List.set_cons_zero, List.set_cons_succ, if_true, if_false, ite_true, ite_false, Bool.false_eq_true, reduceIte, *])
/-! ### a feeder: its fields -/
inductive Sta where
  | more | whole | blk (n : Nat)
def Sta.d : Sta → D
  | .more => .tuple [.str "more"]
  | .whole => .tuple [.str "whole"]
  | .blk n => .tuple [.str "block", .int (n : Int)]
def Sta.isM : Sta → Bool
  | .more => true
  | _ => false
def Sta.isW : Sta → Bool
  | .whole => true
  | _ => false
theorem sh_st (s : Sta) : SeqAt.shaped s.d = true := by
  have h1 : PyData.strOk "more" = true := by decide +kernel
  have h2 : PyData.strOk "whole" = true := by decide +kernel
  have h3 : PyData.strOk "block" = true := by decide +kernel
  cases s <;> simp [Sta.d, SeqAt.shaped, PyData.canLay0, PyData.canLayAll0, PyData.depth, PyData.depthAll, h1, h2, h3]
theorem sh_mr : SeqAt.shaped (.tuple [.str "more"]) = true := sh_st .more
theorem sh_wh : SeqAt.shaped (.tuple [.str "whole"]) = true := sh_st .whole
theorem eqv_st (a b : Str) : PyData.eqv (.str a) (.str b) = decide (a = b) := by
  simp [PyData.eqv]
  rfl
theorem eqv_more (s : Sta) : PyData.eqv s.d (.tuple [.str "more"]) = s.isM := by
  cases s with
  | more => rfl
  | whole => rfl
  | blk n => rfl
theorem eqv_whole (s : Sta) : PyData.eqv s.d (.tuple [.str "whole"]) = s.isW := by
  cases s with
  | more => rfl
  | whole => rfl
  | blk n => rfl
def FS (st cn tk rs : D) : List (Str × D) := [("state", st), ("count", cn), ("taken", tk), ("rest", rs)]
abbrev FO (st cn tk rs : D) : O := .ins "Feeder" (FS st cn tk rs)
section
variable (a b c d x : D)
theorem FS_state : (FS a b c d).lookup ("state" : Str) = some a := rfl
theorem FS_count : (FS a b c d).lookup ("count" : Str) = some b := rfl
theorem FS_taken : (FS a b c d).lookup ("taken" : Str) = some c := rfl
theorem FS_rest : (FS a b c d).lookup ("rest" : Str) = some d := rfl
theorem FS_m1 : (FS a b c d).lookup ("feed" : Str) = none := rfl
theorem FS_m2 : (FS a b c d).lookup ("take" : Str) = none := rfl
theorem FS_m3 : (FS a b c d).lookup ("told" : Str) = none := rfl
theorem FS_m4 : (FS a b c d).lookup ("data" : Str) = none := rfl
theorem FS_len : (FS a b c d).length = 4 := rfl
theorem put_state : putFD "state" x (FS a b c d) = FS x b c d := rfl
theorem put_count : putFD "count" x (FS a b c d) = FS a x c d := rfl
theorem put_taken : putFD "taken" x (FS a b c d) = FS a b x d := rfl
theorem put_rest : putFD "rest" x (FS a b c d) = FS a b c x := rfl
end
theorem isl_ins {c : Str} {fs : List (Str × D)} : (O.ins c fs).IsL := .inr ⟨_, _, rfl⟩
theorem at5_0 (a b c d e : D) : L2.atI [a, b, c, d, e] 0 = some a := rfl
theorem at5_1 (a b c d e : D) : L2.atI [a, b, c, d, e] 1 = some b := rfl
theorem at5_2 (a b c d e : D) : L2.atI [a, b, c, d, e] 2 = some c := rfl
theorem at5_3 (a b c d e : D) : L2.atI [a, b, c, d, e] 3 = some d := rfl
theorem at5_4 (a b c d e : D) : L2.atI [a, b, c, d, e] 4 = some e := rfl
theorem f_init (k : Nat) : run tb.T (k + 1) i_Feeder_init (some (.ins "Feeder" [])) [] = some (.imm .none, some (FO (.tuple [.str "more"]) .none (.list []) (.list []))) := by
  show runD (run tb.T k) 1 b_Feeder_init (some _) [] = _
  refine runD_of ?_
  show W (evSs _ b_Feeder_init [.io (.ins "Feeder" [])]) _
  unfold b_Feeder_init
  have i1 : (0 : Nat) < 1000 := by decide
  have i2 : (1 : Nat) < 1000 := by decide
  have i3 : (2 : Nat) < 1000 := by decide
  have i4 : (3 : Nat) < 1000 := by decide
  have st : ∀ (fs : List (Str × D)) (f : Str) (e : E) (d : D), (evE (run tb.T k) e).e [.io (.ins "Feeder" fs)] = some (.imm d, [.io (.ins "Feeder" fs)]) ∨ (∃ xs, d = .list xs ∧ (evE (run tb.T k) e).e [.io (.ins "Feeder" fs)] = some (.own (.lst xs), [.io (.ins "Feeder" fs)])) → fs.length < 1000 →
      evS (run tb.T k) (.setf 0 "Feeder" f e) [.io (.ins "Feeder" fs)] = some (.next, [.io (.ins "Feeder" (putFD f d fs))]) := by
    intro fs f e d h hl
    show sSetf 0 "Feeder" f (evE (run tb.T k) e).e [.io (.ins "Feeder" fs)] = _
    unfold sSetf
    have hf : fz ((evE (run tb.T k) e).e [.io (.ins "Feeder" fs)]) = some (d, [.io (.ins "Feeder" fs)]) := by
      rcases h with h | ⟨xs, rfl, h⟩
      · rw [h]; rfl
      · rw [h]; rfl
    rw [hf]
    show IF (fs.length < 1000) _ = _
    rw [IFP hl]
    rfl
  have hs := szl
  refine W_next (st [] "state" _ (.tuple [.str "more"]) (.inl (by walk_at "z")) i1) ?_
  refine W_next (st _ "count" _ .none (.inl (by walk_at "z")) i2) ?_
  refine W_next (st _ "taken" _ (.list []) (.inr ⟨[], rfl, by walk_at "z"⟩) i3) ?_
  refine W_next (st _ "rest" _ (.list []) (.inr ⟨[], rfl, by walk_at "z"⟩) i4) ?_
  exact W_nil ⟨rfl, rfl⟩
end K48
namespace K48
open PySem PySem.Spec PyProof.Rows Z
local macro_rules | `(tactic| walk_at "z") => `(tactic| simp (disch := first | omega | assumption | decide | (apply IsP.l; assumption) | exact isl_ins) only [cFld, insAt, cNew, cMeth, sSetf, FS_state, FS_count, FS_taken, FS_rest, FS_len, FS_m1, FS_m2, FS_m3, FS_m4, put_state, put_count, put_taken, put_rest, sh_st, sh_mr, sh_wh, eqv_more, eqv_whole, eq_self, IFP, IFdiv, IFpow, IFT, IFtt, sh_int, sh_bool, sh_none, sh_L, Bool.and_self, Bool.true_and, Bool.and_true, flatD, List.all_cons, List.all_nil, List.length_cons, List.length_nil, decide_true, decide_false, Bool.not_false, Bool.not_true, eqv_int, eqv_L, evSs, evS, evE, evEs, evI, mE, msCons, msNil, Es.isNil, cV, cC, cGl, vOf, cOp, opD, addD, mulD, Z.intD, mulOk_l, mulOk_r, cNeg, cCmp, cmpD, ordD, cNot, cIte, cLst, cTup, cCall, cCallIO, cBi, biD, lenD, listD, tupleD, int1D, int2D, allD, sumD, intsD, boolsD, strD, cIsi, isiD, cPopv, cMe, meD, cRev, revD, sMk, seqD, cLenv, cIxv, cSlv, cIx, ixD, cSl, slD, tE, tV, tNot, truD, esCons, bCons, tCons, tsCons, pOne, iIt, iRng, iEnu, tupOf, itD, rangeD, sAsg, sAsgT, sSetix, sApp, sExt, sExpr, sRet, sRetV, sIf, rdV, rdR, ownAt, putO, put1, ioB_no, ioB_imm, ioB_own, ioB_gs, putT, putR, fz, Res.d, O.d, Slot.o,
  List.getElem?_cons_zero, List.getElem?_cons_succ, List.set_cons_zero, List.set_cons_succ, if_true, if_false, ite_true, ite_false, Bool.false_eq_true, reduceIte])
local macro_rules | `(tactic| walk_at "zs") => `(tactic| simp (disch := first | omega | assumption | decide | (apply IsP.l; assumption) | exact isl_ins) only [cFld, insAt, cNew, cMeth, sSetf, FS_state, FS_count, FS_taken, FS_rest, FS_len, FS_m1, FS_m2, FS_m3, FS_m4, put_state, put_count, put_taken, put_rest, sh_st, sh_mr, sh_wh, eqv_more, eqv_whole, eq_self, IFP, IFdiv, IFpow, IFT, IFtt, sh_int, sh_bool, sh_none, sh_L, Bool.and_self, Bool.true_and, Bool.and_true, flatD, List.all_cons, List.all_nil, List.length_cons, List.length_nil, decide_true, decide_false, Bool.not_false, Bool.not_true, eqv_int, eqv_L, evSs, evS, evE, evEs, evI, mE, msCons, msNil, Es.isNil, cV, cC, cGl, vOf, cOp, opD, addD, mulD, Z.intD, mulOk_l, mulOk_r, cNeg, cCmp, cmpD, ordD, cNot, cIte, cLst, cTup, cCall, cCallIO, cBi, biD, lenD, listD, tupleD, int1D, int2D, allD, sumD, intsD, boolsD, strD, cIsi, isiD, cPopv, cMe, meD, cRev, revD, sMk, seqD, cLenv, cIxv, cSlv, cIx, ixD, cSl, slD, tE, tV, tNot, truD, esCons, bCons, tCons, tsCons, pOne, iIt, iRng, iEnu, tupOf, itD, rangeD, sAsg, sAsgT, sSetix, sApp, sExt, sExpr, sRet, sRetV, sIf, rdV, rdR, ownAt, putO, put1, ioB_no, ioB_imm, ioB_own, ioB_gs, putT, putR, fz, Res.d, O.d, Slot.o,
  List.getElem?_cons_zero, List.getElem?_cons_succ, List.set_cons_zero, List.set_cons_succ, if_true, if_false, ite_true, ite_false, Bool.false_eq_true, reduceIte, *])
/-! ### a feeder by what another one told, what it tells, its data -/
def cnI : Option Nat → Int
  | none => -1
  | some c => (c : Int)
def cnD : Option Nat → D
  | none => .none
  | some c => .int (c : Int)
abbrev keptD (s : Sta) (cn : Option Nat) (tk rs : List Int) : D := .tuple [.str "feeder", s.d, .int (cnI cn), .tuple (L tk), .tuple (L rs)]
abbrev FF (s : Sta) (cn : Option Nat) (tk rs : List Int) : O := FO s.d (cnD cn) (.list (L tk)) (.list (L rs))
theorem f_new (k : Nat) : run tb.T (k + 1) i_Feeder_init (some (.ins "Feeder" [])) [] = some (.imm .none, some (FF .more none [] [])) := f_init k
theorem f_feeder_of (k : Nat) (s : Sta) (cn : Option Nat) (tk rs : List Int) : run tb.T (k + 2) i_feeder_of none [keptD s cn tk rs] = some (.own (FF s cn tk rs), none) := by
  show runD (run tb.T (k + 1)) 2 b_feeder_of none [_] = _
  refine runD_of ?_
  show W (evSs _ b_feeder_of [.imm (keptD s cn tk rs), .no]) _
  unfold b_feeder_of
  have hs := szl
  have hi := f_new k
  have h1 := at5_1 (.str "feeder") s.d (.int (cnI cn)) (.tuple (L tk)) (.tuple (L rs))
  have h2 := at5_2 (.str "feeder") s.d (.int (cnI cn)) (.tuple (L tk)) (.tuple (L rs))
  have h3 := at5_3 (.str "feeder") s.d (.int (cnI cn)) (.tuple (L tk)) (.tuple (L rs))
  have h4 := at5_4 (.str "feeder") s.d (.int (cnI cn)) (.tuple (L tk)) (.tuple (L rs))
  refine W_next (env' := [.imm (keptD s cn tk rs), .own (FF .more none [] [])]) ?_ ?_
  · walk_at "z"
    rw [hi]
    walk_at "z"
  refine W_next (env' := [.imm (keptD s cn tk rs), .own (FO s.d .none (.list []) (.list []))]) (by walk_at "zs" <;> rfl) ?_
  refine W_next (env' := [.imm (keptD s cn tk rs), .own (FO s.d (cnD cn) (.list []) (.list []))]) ?_ ?_
  · cases cn with
    | none =>
      have d0 : decide ((0 : Int) ≤ cnI none) = false := rfl
      have e2 : cnD none = PyData.none := rfl
      walk_at "zs" <;> rfl
    | some c =>
      have d0 : decide ((0 : Int) ≤ cnI (some c)) = true := decide_eq_true (by show (0 : Int) ≤ (c : Int); omega)
      have e2 : cnD (some c) = PyData.int (cnI (some c)) := rfl
      walk_at "zs" <;> rfl
  refine W_next (env' := [.imm (keptD s cn tk rs), .own (FO s.d (cnD cn) (.list (L tk)) (.list []))]) (by walk_at "zs") ?_
  refine W_next (env' := [.imm (keptD s cn tk rs), .own (FF s cn tk rs)]) (by walk_at "zs") ?_
  exact W_ret (env' := [.imm (keptD s cn tk rs), .no]) (by walk_at "zs") ⟨rfl, rfl⟩
theorem f_told (k : Nat) (s : Sta) (cn : Option Nat) (tk rs : List Int) : run tb.T (k + 1) i_Feeder_told (some (FF s cn tk rs)) [] = some (.imm (keptD s cn tk rs), some (FF s cn tk rs)) := by
  show runD (run tb.T k) 2 b_Feeder_told (some _) [] = _
  refine runD_of ?_
  show W (evSs _ b_Feeder_told [.io (FF s cn tk rs), .no]) _
  unfold b_Feeder_told
  have hs := szl
  refine W_next (env' := [.io (FF s cn tk rs), .imm (.int (cnI cn))]) ?_ ?_
  · cases cn with
    | none =>
      have e1 : cnI none = -1 := rfl
      have e2 : cnD none = PyData.none := rfl
      walk_at "zs" <;> rfl
    | some c =>
      have e2 : cnD (some c) = PyData.int (cnI (some c)) := rfl
      walk_at "zs" <;> rfl
  exact W_ret (env' := [.io (FF s cn tk rs), .imm (.int (cnI cn))]) (by walk_at "z") ⟨rfl, rfl⟩
end K48
namespace K48
open PySem PySem.Spec PyProof.Rows Z
local macro_rules | `(tactic| walk_at "z") => `(tactic| simp (disch := first | omega | assumption | decide | (apply IsP.l; assumption) | exact isl_ins) only [cFld, insAt, cNew, cMeth, sSetf, FS_state, FS_count, FS_taken, FS_rest, FS_len, FS_m1, FS_m2, FS_m3, FS_m4, put_state, put_count, put_taken, put_rest, sh_st, sh_mr, sh_wh, eqv_more, eqv_whole, eq_self, IFP, IFdiv, IFpow, IFT, IFtt, sh_int, sh_bool, sh_none, sh_L, Bool.and_self, Bool.true_and, Bool.and_true, flatD, List.all_cons, List.all_nil, List.length_cons, List.length_nil, decide_true, decide_false, Bool.not_false, Bool.not_true, eqv_int, eqv_L, evSs, evS, evE, evEs, evI, mE, msCons, msNil, Es.isNil, cV, cC, cGl, vOf, cOp, opD, addD, mulD, Z.intD, mulOk_l, mulOk_r, cNeg, cCmp, cmpD, ordD, cNot, cIte, cLst, cTup, cCall, cCallIO, cBi, biD, lenD, listD, tupleD, int1D, int2D, allD, sumD, intsD, boolsD, strD, cIsi, isiD, cPopv, cMe, meD, cRev, revD, sMk, seqD, cLenv, cIxv, cSlv, cIx, ixD, cSl, slD, tE, tV, tNot, truD, esCons, bCons, tCons, tsCons, pOne, iIt, iRng, iEnu, tupOf, itD, rangeD, sAsg, sAsgT, sSetix, sApp, sExt, sExpr, sRet, sRetV, sIf, rdV, rdR, ownAt, putO, put1, ioB_no, ioB_imm, ioB_own, ioB_gs, putT, putR, fz, Res.d, O.d, Slot.o,
  List.getElem?_cons_zero, List.getElem?_cons_succ, List.set_cons_zero, List.set_cons_succ, if_true, if_false, ite_true, ite_false, Bool.false_eq_true, reduceIte])
local macro_rules | `(tactic| walk_at "zs") => `(tactic| simp (disch := first | omega | assumption | decide | (apply IsP.l; assumption) | exact isl_ins) only [cFld, insAt, cNew, cMeth, sSetf, FS_state, FS_count, FS_taken, FS_rest, FS_len, FS_m1, FS_m2, FS_m3, FS_m4, put_state, put_count, put_taken, put_rest, sh_st, sh_mr, sh_wh, eqv_more, eqv_whole, eq_self, IFP, IFdiv, IFpow, IFT, IFtt, sh_int, sh_bool, sh_none, sh_L, Bool.and_self, Bool.true_and, Bool.and_true, flatD, List.all_cons, List.all_nil, List.length_cons, List.length_nil, decide_true, decide_false, Bool.not_false, Bool.not_true, eqv_int, eqv_L, evSs, evS, evE, evEs, evI, mE, msCons, msNil, Es.isNil, cV, cC, cGl, vOf, cOp, opD, addD, mulD, Z.intD, mulOk_l, mulOk_r, cNeg, cCmp, cmpD, ordD, cNot, cIte, cLst, cTup, cCall, cCallIO, cBi, biD, lenD, listD, tupleD, int1D, int2D, allD, sumD, intsD, boolsD, strD, cIsi, isiD, cPopv, cMe, meD, cRev, revD, sMk, seqD, cLenv, cIxv, cSlv, cIx, ixD, cSl, slD, tE, tV, tNot, truD, esCons, bCons, tCons, tsCons, pOne, iIt, iRng, iEnu, tupOf, itD, rangeD, sAsg, sAsgT, sSetix, sApp, sExt, sExpr, sRet, sRetV, sIf, rdV, rdR, ownAt, putO, put1, ioB_no, ioB_imm, ioB_own, ioB_gs, putT, putR, fz, Res.d, O.d, Slot.o,
  List.getElem?_cons_zero, List.getElem?_cons_succ, List.set_cons_zero, List.set_cons_succ, if_true, if_false, ite_true, ite_false, Bool.false_eq_true, reduceIte, *])
/-! ### a block is taken -/
abbrev cnO (cn : Option Nat) : Option Int := cn.map fun c => (c : Int)
theorem cn_opt (cn : Option Nat) : optD (cnO cn) = cnD cn := by cases cn <;> rfl
theorem tail_cut (bs : List Int) : cutD (L (dataP bs)) (some (-56)) none = L (bs.drop (56 * (cntN bs.length - 1)) ++ 1 :: List.replicate (56 * cntN bs.length - (bs.length + 1)) 0) := by
  have hcg := cnt_ge bs.length
  have hPl := dataP_len bs
  refine (cut_last (dataP bs) 56 (by decide)).trans ?_
  congr 1
  rw [hPl, show 56 * cntN bs.length - 56 = 56 * (cntN bs.length - 1) by omega]
  unfold dataP
  rw [List.append_assoc, List.drop_append_of_le_length (by omega)]
  rfl
theorem init_cut (bs : List Int) : cutD (L (dataP bs)) none (some (-56)) = L (bs.take (56 * (cntN bs.length - 1))) := by
  have hcg := cnt_ge bs.length
  have hPl := dataP_len bs
  refine (cut_init (dataP bs) 56 (by decide)).trans ?_
  congr 1
  rw [hPl, show 56 * cntN bs.length - 56 = 56 * (cntN bs.length - 1) by omega]
  unfold dataP
  rw [List.append_assoc, List.take_append_of_le_length (by omega)]
theorem we_data (k : Nat) (bs : List Int) : run tb.T (k + 1) i_without_end none [.list (cutD (L (dataP bs)) (some (-56)) none)] = some (.own (.lst (L (bs.drop (56 * (cntN bs.length - 1))))), none) := by
  rw [tail_cut]
  exact f_without_end k _ _
theorem num_eq {tk : List Int} {num : Nat} (hn : tk.length / 56 + 1 = num) : ((L tk).length : Int).fdiv 56 + 1 = (num : Int) := by
  rw [L_len, fd _ (by decide)]
  omega
section
variable (k : Nat) (s : Sta) (cn : Option Nat) (tk rs t : List Int) (num : Nat) (ht : isB t) (hn : tk.length / 56 + 1 = num) (hz : tk.length ≤ 100000)
include ht hn hz
theorem f_take_bad (hb : isBlk t num (cnO cn) = false) :
    run tb.T (k + 3) i_Feeder_take (some (FF s cn tk rs)) [.list (L t)] = some (.imm .none, some (FF (.blk num) cn tk rs)) := by
  show runD (run tb.T (k + 2)) 4 b_Feeder_take (some _) [_] = _
  refine runD_of ?_
  show W (evSs _ b_Feeder_take [.io (FF s cn tk rs), .imm (.list (L t)), .no, .no]) _
  unfold b_Feeder_take
  have hs := szl
  have hL := L_len tk
  have h1 := f_is_block k t num (cnO cn) ht
  rw [hb, cn_opt] at h1
  have h2 := num_eq hn
  refine W_next (env' := [.io (FF s cn tk rs), .imm (.list (L t)), .imm (.int (num : Nat)), .no]) ?_ ?_
  · walk_at "z"
    rw [h2]
  refine W_cons (W_if (k := true) (env' := [.io (FF s cn tk rs), .imm (.list (L t)), .imm (.int (num : Nat)), .no]) ?_ (fun _ => ?_) (fun z => nomatch z))
  · walk_at "z"
    rw [h1]
    walk_at "z"
  refine W_next (env' := [.io (FF (.blk num) cn tk rs), .imm (.list (L t)), .imm (.int (num : Nat)), .no]) (by walk_at "z" <;> rfl) ?_
  exact W_ret rfl ⟨rfl, rfl⟩
theorem take_pre {Φ : Fl → Z.Env → Prop} (c : Nat) (hm : many t = (c : Int)) (hb : isBlk t num (cnO cn) = true)
    (h : W (evS (run tb.T (k + 2)) (.ife (.cmp .eq (.v 2) (.fld 0 "Feeder" "count")) (.cons (.asg 3 (.cmp .isn (.call 4 (.cons (.sl (.fld 0 "Feeder" "taken") (.cons (.neg (.gl "DATA" (.int (56)))) .nil) .nil) .nil)) .non)) (.cons (.setf 0 "Feeder" "state" (.ite (.v 3) (.tup (.cons (.str "whole") .nil)) (.tup (.cons (.str "block") (.cons (.v 2) .nil))))) .nil)) .nil)
      [.io (FF s (some c) (tk ++ (t.drop 4).take 56) rs), .imm (.list (L t)), .imm (.int (num : Nat)), .no]) (Kn (evSs (run tb.T (k + 2)) .nil) Φ)) :
    W (evSs (run tb.T (k + 2)) b_Feeder_take [.io (FF s cn tk rs), .imm (.list (L t)), .no, .no]) Φ := by
  unfold b_Feeder_take
  have hs := szl
  have hL := L_len tk
  have h1 := f_is_block k t num (cnO cn) ht
  rw [hb, cn_opt] at h1
  have h2 := num_eq hn
  have hlen := isBlk_len hb
  have a2 : L2.atI (L t) 2 = some (.int (t.getD 2 0)) := at_getD (i := 2) (by omega)
  have a3 : L2.atI (L t) 3 = some (.int (t.getD 3 0)) := at_getD (i := 3) (by omega)
  have hcut : cutD (L t) (some 4) (some 60) = L ((t.drop 4).take 56) := cut_mid _ 4 60 (by omega)
  have hL2 : (L ((t.drop 4).take 56)).length = 56 := by rw [L_len, List.length_take, List.length_drop, hlen]; rfl
  have happ := L_app tk ((t.drop 4).take 56)
  unfold many at hm
  refine W_next (env' := [.io (FF s cn tk rs), .imm (.list (L t)), .imm (.int (num : Nat)), .no]) ?_ ?_
  · walk_at "z"
    rw [h2]
  refine W_cons (W_if (k := false) (env' := [.io (FF s cn tk rs), .imm (.list (L t)), .imm (.int (num : Nat)), .no]) ?_ (fun z => nomatch z) (fun _ => W_nil ?_))
  · walk_at "z"
    rw [h1]
    walk_at "z"
  refine W_next (env' := [.io (FF s (some c) tk rs), .imm (.list (L t)), .imm (.int (num : Nat)), .no]) ?_ ?_
  · have e : cnD (some c) = PyData.int (256 * t.getD 2 0 + t.getD 3 0) := by rw [hm]; rfl
    clear hm hb h1
    walk_at "z"
    rw [a2]
    walk_at "z"
    rw [a3]
    walk_at "z"
    rw [← e]
  refine W_next (env' := [.io (FF s (some c) (tk ++ (t.drop 4).take 56) rs), .imm (.list (L t)), .imm (.int (num : Nat)), .no]) ?_ (W_cons h)
  generalize (t.drop 4).take 56 = dd at *
  clear hm hb h1 hn h2
  walk_at "z"
  rw [hcut]
  walk_at "z"
  rw [happ]
theorem f_take_more (c : Nat) (hm : many t = (c : Int)) (hb : isBlk t num (cnO cn) = true) (hne : num ≠ c) :
    run tb.T (k + 3) i_Feeder_take (some (FF s cn tk rs)) [.list (L t)] = some (.imm .none, some (FF s (some c) (tk ++ (t.drop 4).take 56) rs)) := by
  show runD (run tb.T (k + 2)) 4 b_Feeder_take (some _) [_] = _
  refine runD_of (take_pre k s cn tk rs t num ht hn hz c hm hb ?_)
  have d0 : decide ((num : Int) = (c : Int)) = false := decide_eq_false (by omega)
  have e : cnD (some c) = PyData.int (c : Int) := rfl
  refine W_if (k := false) (env' := [.io (FF s (some c) (tk ++ (t.drop 4).take 56) rs), .imm (.list (L t)), .imm (.int (num : Nat)), .no]) ?_ (fun z => nomatch z) (fun _ => W_nil (W_nil ⟨rfl, rfl⟩))
  clear hb hm hn
  walk_at "zs"
theorem f_take_whole (bs : List Int) (hm : many t = ((cntN bs.length : Nat) : Int)) (hb : isBlk t num (cnO cn) = true) (hne : num = cntN bs.length) (hd : tk ++ (t.drop 4).take 56 = dataP bs) :
    run tb.T (k + 3) i_Feeder_take (some (FF s cn tk rs)) [.list (L t)] = some (.imm .none, some (FF .whole (some (cntN bs.length)) (dataP bs) rs)) := by
  show runD (run tb.T (k + 2)) 4 b_Feeder_take (some _) [_] = _
  refine runD_of (take_pre k s cn tk rs t num ht hn hz (cntN bs.length) hm hb ?_)
  rw [hd]
  have hw := we_data (k + 1) bs
  subst hne
  generalize cntN bs.length = c at *
  generalize dataP bs = dd at *
  have d0 : decide ((c : Int) = (c : Int)) = true := decide_eq_true rfl
  have e : cnD (some c) = PyData.int (c : Int) := rfl
  refine W_if (k := true) (env' := [.io (FF s (some c) dd rs), .imm (.list (L t)), .imm (.int (c : Nat)), .no]) ?_ (fun _ => ?_) (fun z => nomatch z)
  · clear hb hm hn hw
    walk_at "zs"
  refine W_next (env' := [.io (FF s (some c) dd rs), .imm (.list (L t)), .imm (.int (c : Nat)), .imm (.bool true)]) ?_ ?_
  · walk_at "z"
    rw [hw]
    walk_at "z"
  refine W_next (env' := [.io (FF .whole (some c) dd rs), .imm (.list (L t)), .imm (.int (c : Nat)), .imm (.bool true)]) (by walk_at "z" <;> rfl) (W_nil (W_nil ⟨rfl, rfl⟩))
end
theorem f_data_w (k : Nat) (bs : List Int) (cn : Option Nat) (rs : List Int) (hz : bs.length ≤ 5000) : run tb.T (k + 2) i_Feeder_data (some (FF .whole cn (dataP bs) rs)) [] = some (.own (.lst (L bs)), some (FF .whole cn (dataP bs) rs)) := by
  show runD (run tb.T (k + 1)) 1 b_Feeder_data (some _) [] = _
  refine runD_of ?_
  show W (evSs _ b_Feeder_data [.io (FF .whole cn (dataP bs) rs)]) _
  unfold b_Feeder_data
  have hs := szl
  have hw := we_data k bs
  have hi := init_cut bs
  have e : Sta.whole.isW = true := rfl
  have hjoin : L (bs.take (56 * (cntN bs.length - 1))) ++ L (bs.drop (56 * (cntN bs.length - 1))) = L bs := by rw [L_app, List.take_append_drop]
  have hl1 : (L (bs.take (56 * (cntN bs.length - 1)))).length ≤ 5000 := by rw [L_len, List.length_take]; omega
  have hl2 : (L (bs.drop (56 * (cntN bs.length - 1)))).length ≤ 5000 := by rw [L_len, List.length_drop]; omega
  generalize bs.drop (56 * (cntN bs.length - 1)) = l at *
  generalize bs.take (56 * (cntN bs.length - 1)) = l0 at *
  generalize dataP bs = dd at *
  refine W_cons (W_if (k := false) (env' := [.io (FF .whole cn dd rs)]) (by walk_at "z"; rw [e]; rfl) (fun z => nomatch z) (fun _ => W_nil ?_))
  refine W_ret (env' := [.io (FF .whole cn dd rs)]) ?_ ⟨rfl, rfl⟩
  walk_at "z"
  rw [hi, hw]
  walk_at "z"
  rw [hjoin]
theorem f_data_n (k : Nat) (s : Sta) (cn : Option Nat) (tk rs : List Int) (h : s.isW = false) : run tb.T (k + 1) i_Feeder_data (some (FF s cn tk rs)) [] = some (.imm .none, some (FF s cn tk rs)) := by
  show runD (run tb.T k) 1 b_Feeder_data (some _) [] = _
  refine runD_of ?_
  show W (evSs _ b_Feeder_data [.io (FF s cn tk rs)]) _
  unfold b_Feeder_data
  refine W_cons (W_if (k := true) (env' := [.io (FF s cn tk rs)]) (by walk_at "z"; rw [h]; rfl) (fun _ => ?_) (fun z => nomatch z))
  exact W_ret (by walk_at "z"; rfl) ⟨rfl, rfl⟩
end K48
namespace K48
open PySem PySem.Spec PyProof.Rows Z
local macro_rules | `(tactic| walk_at "z") => `(tactic| simp (disch := first | omega | assumption | decide | (apply IsP.l; assumption) | exact isl_ins) only [cFld, insAt, cNew, cMeth, sSetf, FS_state, FS_count, FS_taken, FS_rest, FS_len, FS_m1, FS_m2, FS_m3, FS_m4, put_state, put_count, put_taken, put_rest, sh_st, sh_mr, sh_wh, eqv_more, eqv_whole, eq_self, IFP, IFdiv, IFpow, IFT, IFtt, sh_int, sh_bool, sh_none, sh_L, Bool.and_self, Bool.true_and, Bool.and_true, flatD, List.all_cons, List.all_nil, List.length_cons, List.length_nil, decide_true, decide_false, Bool.not_false, Bool.not_true, eqv_int, eqv_L, evSs, evS, evE, evEs, evI, mE, msCons, msNil, Es.isNil, cV, cC, cGl, vOf, cOp, opD, addD, mulD, Z.intD, mulOk_l, mulOk_r, cNeg, cCmp, cmpD, ordD, cNot, cIte, cLst, cTup, cCall, cCallIO, cBi, biD, lenD, listD, tupleD, int1D, int2D, allD, sumD, intsD, boolsD, strD, cIsi, isiD, cPopv, cMe, meD, cRev, revD, sMk, seqD, cLenv, cIxv, cSlv, cIx, ixD, cSl, slD, tE, tV, tNot, truD, esCons, bCons, tCons, tsCons, pOne, iIt, iRng, iEnu, tupOf, itD, rangeD, sAsg, sAsgT, sSetix, sApp, sExt, sExpr, sRet, sRetV, sIf, rdV, rdR, ownAt, putO, put1, ioB_no, ioB_imm, ioB_own, ioB_gs, putT, putR, fz, Res.d, O.d, Slot.o,
  List.getElem?_cons_zero, List.getElem?_cons_succ, List.set_cons_zero, List.set_cons_succ, if_true, if_false, ite_true, ite_false, Bool.false_eq_true, reduceIte])
local macro_rules | `(tactic| walk_at "zs") => `(tactic| simp (disch := first | omega | assumption | decide | (apply IsP.l; assumption) | exact isl_ins) only [cFld, insAt, cNew, cMeth, sSetf, FS_state, FS_count, FS_taken, FS_rest, FS_len, FS_m1, FS_m2, FS_m3, FS_m4, put_state, put_count, put_taken, put_rest, sh_st, sh_mr, sh_wh, eqv_more, eqv_whole, eq_self, IFP, IFdiv, IFpow, IFT, IFtt, sh_int, sh_bool, sh_none, sh_L, Bool.and_self, Bool.true_and, Bool.and_true, flatD, List.all_cons, List.all_nil, List.length_cons, List.length_nil, decide_true, decide_false, Bool.not_false, Bool.not_true, eqv_int, eqv_L, evSs, evS, evE, evEs, evI, mE, msCons, msNil, Es.isNil, cV, cC, cGl, vOf, cOp, opD, addD, mulD, Z.intD, mulOk_l, mulOk_r, cNeg, cCmp, cmpD, ordD, cNot, cIte, cLst, cTup, cCall, cCallIO, cBi, biD, lenD, listD, tupleD, int1D, int2D, allD, sumD, intsD, boolsD, strD, cIsi, isiD, cPopv, cMe, meD, cRev, revD, sMk, seqD, cLenv, cIxv, cSlv, cIx, ixD, cSl, slD, tE, tV, tNot, truD, esCons, bCons, tCons, tsCons, pOne, iIt, iRng, iEnu, tupOf, itD, rangeD, sAsg, sAsgT, sSetix, sApp, sExt, sExpr, sRet, sRetV, sIf, rdV, rdR, ownAt, putO, put1, ioB_no, ioB_imm, ioB_own, ioB_gs, putT, putR, fz, Res.d, O.d, Slot.o,
  List.getElem?_cons_zero, List.getElem?_cons_succ, List.set_cons_zero, List.set_cons_succ, if_true, if_false, ite_true, ite_false, Bool.false_eq_true, reduceIte, *])
/-! ### feeding -/
/-- m right blocks of bs's, then no more or a wrong one -/
structure Gd (bs w : List Int) (m : Nat) : Prop where
  isb : isB w
  lb : bs.length ≤ 5000
  le : m ≤ cntN bs.length
  R : Right w (cntN bs.length) m
  hd : m = cntN bs.length → datas w m = dataP bs
  bad : m = cntN bs.length ∨ isBlk (piece w m) ((m : Int) + 1) (if m = 0 then none else some ((cntN bs.length : Nat) : Int)) = false
def stJ (c m j : Nat) : Sta := if j ≤ m ∧ j < c then .more else if m = c then .whole else .blk (m + 1)
def cnJ (c m j : Nat) : Option Nat := if min j m = 0 then none else some c
abbrev FJ (bs w : List Int) (m j : Nat) (rs : List Int) : O := FF (stJ (cntN bs.length) m j) (cnJ (cntN bs.length) m j) (datas w (min j m)) rs
theorem stJ_more {c m j : Nat} (h : j ≤ m ∧ j < c) : stJ c m j = .more := if_pos h
theorem stJ_isM (c m j : Nat) : (stJ c m j).isM = decide (j ≤ m ∧ j < c) := by
  unfold stJ
  by_cases h : j ≤ m ∧ j < c
  · rw [if_pos h, decide_eq_true h]
    rfl
  · rw [if_neg h, decide_eq_false h]
    split <;> rfl
theorem cnJ_opt (c m j : Nat) (h : j ≤ m) : cnO (cnJ c m j) = if j = 0 then none else some (c : Int) := by
  unfold cnJ
  rw [Nat.min_eq_left h]
  split <;> rfl
theorem stJ_le {bs w : List Int} {m j j' : Nat} (hm : m ≤ cntN bs.length) (h : ¬(j ≤ m ∧ j < cntN bs.length)) (hj : j ≤ j') (rs : List Int) : FJ bs w m j rs = FJ bs w m j' rs := by
  have h' : ¬(j' ≤ m ∧ j' < cntN bs.length) := by omega
  have e1 : min j m = m := by omega
  have e2 : min j' m = m := by omega
  unfold FJ stJ cnJ
  rw [if_neg h, if_neg h', e1, e2]
theorem f_takeJ {bs w : List Int} {m : Nat} (G : Gd bs w m) (k j : Nat) (rs : List Int) (hj : j ≤ m ∧ j < cntN bs.length) :
    run tb.T (k + 3) i_Feeder_take (some (FJ bs w m j rs)) [.list (L (piece w j))] = some (.imm .none, some (FJ bs w m (j + 1) rs)) := by
  have hlen : (datas w j).length = 56 * j := datas_len j fun i hi => G.R i (by omega)
  have hmin : min j m = j := Nat.min_eq_left hj.1
  have hc : cntN bs.length ≤ 100 := cnt_small G.lb
  have hb := piece_isB G.isb j
  have hn : (datas w j).length / 56 + 1 = j + 1 := by rw [hlen]; omega
  have hcn := cnJ_opt (cntN bs.length) m j hj.1
  unfold FJ
  rw [hmin]
  by_cases h1 : j < m
  · obtain ⟨h2, h3⟩ := G.R j h1
    rw [← hcn, show (j : Int) + 1 = ((j + 1 : Nat) : Int) by omega] at h2
    have hs := datas_succ w j
    have hmin2 : min (j + 1) m = j + 1 := Nat.min_eq_left h1
    have hcn2 : cnJ (cntN bs.length) m (j + 1) = some (cntN bs.length) := by
      unfold cnJ
      rw [hmin2, if_neg (by omega)]
    rw [hmin2, hcn2, hs]
    by_cases h4 : j + 1 = cntN bs.length
    · have hle := G.le
      have hmc : m = cntN bs.length := by omega
      have hst : stJ (cntN bs.length) m (j + 1) = .whole := by
        unfold stJ
        rw [if_neg (by omega), if_pos hmc]
      have hd := G.hd hmc
      rw [← (show j + 1 = m by omega), hs] at hd
      rw [hst, hd]
      exact f_take_whole k _ _ _ rs _ (j + 1) hb hn (by omega) bs h3 h2 h4 hd
    · rw [stJ_more hj, stJ_more (j := j + 1) (by omega)]
      exact f_take_more k _ _ _ rs _ (j + 1) hb hn (by omega) (cntN bs.length) h3 h2 h4
  · have e : j = m := by omega
    subst e
    have h2 := G.bad.resolve_left (by omega)
    rw [← hcn, show (j : Int) + 1 = ((j + 1 : Nat) : Int) by omega] at h2
    have hst : stJ (cntN bs.length) j (j + 1) = .blk (j + 1) := by
      unfold stJ
      rw [if_neg (by omega), if_neg (by omega)]
    have hmin2 : min (j + 1) j = j := Nat.min_eq_right (Nat.le_succ j)
    have hcn2 : cnJ (cntN bs.length) j (j + 1) = cnJ (cntN bs.length) j j := by
      unfold cnJ
      rw [hmin2, Nat.min_self]
    rw [hst, hmin2, hcn2]
    exact f_take_bad k _ _ _ rs _ (j + 1) hb hn (by omega) h2
theorem feed_cond (Γ : Fn) (s : Sta) (cn : Option Nat) (tk rs : List Int) (p : D) (x2 : Option D) :
    (evE Γ (.bop true (.cons (.cmp .eq (.fld 0 "Feeder" "state") (.tup (.cons (.str "more") .nil))) (.cons (.cmp .ge (.bi .len (.cons (.fld 0 "Feeder" "rest") .nil)) (.gl "SIZE" (.int (64)))) .nil)))).t [.io (FF s cn tk rs), .imm p, gs x2] = some (s.isM && decide (64 ≤ rs.length), [.io (FF s cn tk rs), .imm p, gs x2]) := by
  have hL := L_len rs
  have e : decide ((64 : Int) ≤ ((L rs).length : Int)) = decide (64 ≤ rs.length) := decide_eq_decide.mpr (by omega)
  cases hm : s.isM with
  | true =>
    rw [Bool.true_and]
    walk_at "z"
    rw [hm]
    walk_at "z"
    rw [e]
  | false =>
    rw [Bool.false_and]
    walk_at "z"
    rw [hm]
    rfl
theorem feed_turn {k : Nat} {s s' : Sta} {cn cn' : Option Nat} {tk tk' rs : List Int} {p : D} {x2 : Option D} {Φ : Fl → Z.Env → Prop}
    (ht : run tb.T (k + 3) i_Feeder_take (some (FF s cn tk (rs.drop 64))) [.list (L (rs.take 64))] = some (.imm .none, some (FF s' cn' tk' (rs.drop 64))))
    (h : Φ .next [.io (FF s' cn' tk' (rs.drop 64)), .imm p, gs (some (.list (L (rs.take 64))))]) : W (evSs (run tb.T (k + 3)) l_Feeder_feed_1 [.io (FF s cn tk rs), .imm p, gs x2]) Φ := by
  unfold l_Feeder_feed_1
  have hs := szl
  have c1 := cut_to rs 64
  have c2 := cut_from rs 64
  refine W_next (env' := [.io (FF s cn tk rs), .imm p, .own (.lst (L (rs.take 64)))]) ?_ ?_
  · walk_at "z"
    rw [show (64 : Int) = ((64 : Nat) : Int) from rfl, c1]
  refine W_next (env' := [.io (FF s cn tk (rs.drop 64)), .imm p, .own (.lst (L (rs.take 64)))]) ?_ ?_
  · walk_at "z"
    rw [show (64 : Int) = ((64 : Nat) : Int) from rfl, c2]
  refine W_next (env' := [.io (FF s' cn' tk' (rs.drop 64)), .imm p, gs (some (.list (L (rs.take 64))))]) ?_ (W_nil h)
  generalize rs.take 64 = a at *
  generalize rs.drop 64 = b at *
  walk_at "z"
  rw [ht]
  walk_at "z"
  rfl
abbrev rsN (c m : Nat) (w : List Int) (n : Nat) : List Int := if n / 64 ≤ m ∧ n / 64 < c then (w.take n).drop (64 * (n / 64)) else []
abbrev FN (bs w : List Int) (m n : Nat) : O := FJ bs w m (n / 64) (rsN (cntN bs.length) m w n)
theorem feed_end {Γ : Fn} {s : Sta} {cn : Option Nat} {tk rs : List Int} {p : D} {x2 : Option D} {o : O} (h : FF s cn tk (if s.isM then rs else []) = o) :
    W (evSs Γ (.cons (.ife (.cmp .ne (.fld 0 "Feeder" "state") (.tup (.cons (.str "more") .nil))) (.cons (.setf 0 "Feeder" "rest" (.lst .nil)) .nil) .nil) (.cons (.ret (.fld 0 "Feeder" "state")) .nil)) [.io (FF s cn tk rs), .imm p, gs x2])
      (fun fl e => match fl with
        | .ret r' => r' = .imm s.d ∧ ioOf e = some o
        | .next => (.imm s.d : Res) = .imm .none ∧ ioOf e = some o
        | _ => False) := by
  subst h
  have hs := szl
  cases hm : s.isM with
  | true =>
    refine W_cons (W_if (k := false) (env' := [.io (FF s cn tk rs), .imm p, gs x2]) (by walk_at "z"; rw [hm]; rfl) (fun z => nomatch z) (fun _ => W_nil ?_))
    exact W_ret (by walk_at "z"; rfl) ⟨rfl, rfl⟩
  | false =>
    refine W_cons (W_if (k := true) (env' := [.io (FF s cn tk rs), .imm p, gs x2]) (by walk_at "z"; rw [hm]; rfl) (fun _ => ?_) (fun z => nomatch z))
    refine W_next (env' := [.io (FF s cn tk []), .imm p, gs x2]) (by walk_at "z" <;> rfl) (W_nil ?_)
    exact W_ret (by walk_at "z"; rfl) ⟨rfl, rfl⟩
theorem f_feed {bs w : List Int} {m : Nat} (G : Gd bs w m) (k n n' : Nat) (hn : n ≤ n') (hn' : n' ≤ w.length) (hw : w.length ≤ 5000) :
    run tb.T (k + 4) i_Feeder_feed (some (FN bs w m n)) [.list (L ((w.drop n).take (n' - n)))] = some (.imm (stJ (cntN bs.length) m (n' / 64)).d, some (FN bs w m n')) := by
  show runD (run tb.T (k + 3)) 3 b_Feeder_feed (some _) [_] = _
  refine runD_of ?_
  show W (evSs _ b_Feeder_feed [.io (FN bs w m n), .imm (.list (L ((w.drop n).take (n' - n)))), gs none]) _
  have hs := szl
  have hiM := stJ_isM (cntN bs.length) m
  have hdiv : n / 64 ≤ n' / 64 := Nat.div_le_div_right hn
  unfold b_Feeder_feed
  by_cases hm : n / 64 ≤ m ∧ n / 64 < cntN bs.length
  · have hjoin : (w.take n).drop (64 * (n / 64)) ++ (w.drop n).take (n' - n) = (w.take n').drop (64 * (n / 64)) := by
      have e1 : w.take n' = w.take n ++ (w.drop n).take (n' - n) := by
        conv => lhs; rw [show n' = n + (n' - n) by omega]
        rw [List.take_add]
      rw [e1, List.drop_append_of_le_length (by rw [List.length_take]; omega)]
    have hF : FN bs w m n = FF (stJ (cntN bs.length) m (n / 64)) (cnJ (cntN bs.length) m (n / 64)) (datas w (min (n / 64) m)) ((w.take n).drop (64 * (n / 64))) := by
      unfold FN FJ rsN
      rw [if_pos hm]
    rw [hF]
    have h1 := hiM (n / 64)
    rw [decide_eq_true hm] at h1
    have hLa := L_app ((w.take n).drop (64 * (n / 64))) ((w.drop n).take (n' - n))
    rw [hjoin] at hLa
    have hl1 : (L ((w.take n).drop (64 * (n / 64)))).length ≤ 5000 := by rw [L_len, List.length_drop, List.length_take]; omega
    have hl2 : (L ((w.drop n).take (n' - n))).length ≤ 5000 := by rw [L_len, List.length_take, List.length_drop]; omega
    refine W_cons (W_if (k := true) (env' := [.io (FF (stJ (cntN bs.length) m (n / 64)) (cnJ (cntN bs.length) m (n / 64)) (datas w (min (n / 64) m)) ((w.take n).drop (64 * (n / 64)))), .imm (.list (L ((w.drop n).take (n' - n)))), gs none]) ?_ (fun _ => ?_) (fun z => nomatch z))
    · generalize stJ (cntN bs.length) m (n / 64) = s at *
      walk_at "z"
      rw [h1]
    refine W_next (env' := [.io (FJ bs w m (n / 64) ((w.take n').drop (64 * (n / 64)))), .imm (.list (L ((w.drop n).take (n' - n)))), gs none]) ?_ (W_nil ?_)
    · unfold FJ
      generalize stJ (cntN bs.length) m (n / 64) = s at *
      generalize cnJ (cntN bs.length) m (n / 64) = cn at *
      generalize datas w (min (n / 64) m) = tk at *
      generalize (w.take n).drop (64 * (n / 64)) = a at *
      generalize (w.drop n).take (n' - n) = b at *
      generalize (w.take n').drop (64 * (n / 64)) = d at *
      clear hF hjoin
      walk_at "z"
      rw [hLa]
    refine W_cons ?_
    refine W_while (fun q e => ∃ j x2, e = [.io (FJ bs w m j ((w.take n').drop (64 * j))), .imm (.list (L ((w.drop n).take (n' - n)))), gs x2] ∧ q = n' / 64 - j ∧ n / 64 ≤ j ∧ j ≤ n' / 64) (n' / 64 - n / 64) ⟨n / 64, none, rfl, rfl, Nat.le_refl _, hdiv⟩ ?_
    rintro q e ⟨j, x2, rfl, rfl, hj1, hj2⟩
    have hrl : ((w.take n').drop (64 * j)).length = n' - 64 * j := by rw [List.length_drop, List.length_take]; omega
    refine W.eq (feed_cond _ _ _ _ _ _ x2) ?_
    rw [hiM j, hrl]
    by_cases h2 : j ≤ m ∧ j < cntN bs.length
    · rw [decide_eq_true h2, Bool.true_and]
      by_cases h3 : 64 ≤ n' - 64 * j
      · rw [decide_eq_true h3]
        have e1 : ((w.take n').drop (64 * j)).take 64 = piece w j := by
          unfold piece
          rw [List.drop_take, List.take_take, Nat.min_eq_left h3]
        have e2 : ((w.take n').drop (64 * j)).drop 64 = (w.take n').drop (64 * (j + 1)) := by
          rw [List.drop_drop]
          rfl
        refine feed_turn (s' := stJ (cntN bs.length) m (j + 1)) (cn' := cnJ (cntN bs.length) m (j + 1)) (tk' := datas w (min (j + 1) m)) ?_ ?_
        · rw [e1]
          exact f_takeJ G k j _ h2
        · exact ⟨n' / 64 - (j + 1), by omega, j + 1, some _, by rw [e2], rfl, by omega, by omega⟩
      · rw [decide_eq_false h3]
        have e : n' / 64 = j := by omega
        subst e
        refine feed_end ?_
        rw [hiM, decide_eq_true h2]
        unfold FN FJ rsN
        rw [if_pos h2, if_pos rfl]
    · rw [decide_eq_false h2, Bool.false_and]
      have e := fun rs => stJ_le (bs := bs) (w := w) G.le h2 hj2 rs
      have hno : ¬(n' / 64 ≤ m ∧ n' / 64 < cntN bs.length) := by have := G.le; omega
      have hst : stJ (cntN bs.length) m j = stJ (cntN bs.length) m (n' / 64) := by
        unfold stJ
        rw [if_neg h2, if_neg hno]
      rw [← hst]
      refine feed_end ?_
      rw [hiM, decide_eq_false h2]
      unfold FN rsN
      rw [if_neg hno, ← e []]
      rfl
  · have hno : ¬(n' / 64 ≤ m ∧ n' / 64 < cntN bs.length) := by have := G.le; omega
    have e := fun rs => stJ_le (bs := bs) (w := w) G.le hm hdiv rs
    have hst : stJ (cntN bs.length) m (n / 64) = stJ (cntN bs.length) m (n' / 64) := by
      unfold stJ
      rw [if_neg hm, if_neg hno]
    have h1 := hiM (n / 64)
    rw [decide_eq_false hm] at h1
    have hF : FN bs w m n = FF (stJ (cntN bs.length) m (n / 64)) (cnJ (cntN bs.length) m (n / 64)) (datas w (min (n / 64) m)) [] := by
      unfold FN FJ rsN
      rw [if_neg hm]
    have hF' : FN bs w m n' = FN bs w m n := by
      unfold FN rsN
      rw [if_neg hm, if_neg hno, ← e []]
    rw [hF', hF, ← hst]
    refine W_cons (W_if (k := false) (env' := [.io (FF (stJ (cntN bs.length) m (n / 64)) (cnJ (cntN bs.length) m (n / 64)) (datas w (min (n / 64) m)) []), .imm (.list (L ((w.drop n).take (n' - n)))), gs none]) ?_ (fun z => nomatch z) (fun _ => W_nil ?_))
    · generalize stJ (cntN bs.length) m (n / 64) = s at *
      walk_at "z"
      rw [h1]
    refine W_cons ?_
    refine W_while (fun q e => e = [.io (FF (stJ (cntN bs.length) m (n / 64)) (cnJ (cntN bs.length) m (n / 64)) (datas w (min (n / 64) m)) []), .imm (.list (L ((w.drop n).take (n' - n)))), gs none]) 0 rfl ?_
    rintro q e rfl
    refine W.eq (feed_cond _ _ _ _ _ _ none) ?_
    rw [h1, Bool.false_and]
    refine feed_end ?_
    rw [h1]
    rfl
end K48
namespace K48
open PySem PySem.Spec PyProof.Rows Z
local macro_rules | `(tactic| walk_at "z") => `(tactic| simp (disch := first | omega | assumption | decide | (apply IsP.l; assumption) | exact isl_ins) only [cFld, insAt, cNew, cMeth, sSetf, FS_state, FS_count, FS_taken, FS_rest, FS_len, FS_m1, FS_m2, FS_m3, FS_m4, put_state, put_count, put_taken, put_rest, sh_st, sh_mr, sh_wh, eqv_more, eqv_whole, eq_self, IFP, IFdiv, IFpow, IFT, IFtt, sh_int, sh_bool, sh_none, sh_L, Bool.and_self, Bool.true_and, Bool.and_true, flatD, List.all_cons, List.all_nil, List.length_cons, List.length_nil, decide_true, decide_false, Bool.not_false, Bool.not_true, eqv_int, eqv_L, evSs, evS, evE, evEs, evI, mE, msCons, msNil, Es.isNil, cV, cC, cGl, vOf, cOp, opD, addD, mulD, Z.intD, mulOk_l, mulOk_r, cNeg, cCmp, cmpD, ordD, cNot, cIte, cLst, cTup, cCall, cCallIO, cBi, biD, lenD, listD, tupleD, int1D, int2D, allD, sumD, intsD, boolsD, strD, cIsi, isiD, cPopv, cMe, meD, cRev, revD, sMk, seqD, cLenv, cIxv, cSlv, cIx, ixD, cSl, slD, tE, tV, tNot, truD, esCons, bCons, tCons, tsCons, pOne, iIt, iRng, iEnu, tupOf, itD, rangeD, sAsg, sAsgT, sSetix, sApp, sExt, sExpr, sRet, sRetV, sIf, rdV, rdR, ownAt, putO, put1, ioB_no, ioB_imm, ioB_own, ioB_gs, putT, putR, fz, Res.d, O.d, Slot.o,
  List.getElem?_cons_zero, List.getElem?_cons_succ, List.set_cons_zero, List.set_cons_succ, if_true, if_false, ite_true, ite_false, Bool.false_eq_true, reduceIte])
local macro_rules | `(tactic| walk_at "zs") => `(tactic| simp (disch := first | omega | assumption | decide | (apply IsP.l; assumption) | exact isl_ins) only [cFld, insAt, cNew, cMeth, sSetf, FS_state, FS_count, FS_taken, FS_rest, FS_len, FS_m1, FS_m2, FS_m3, FS_m4, put_state, put_count, put_taken, put_rest, sh_st, sh_mr, sh_wh, eqv_more, eqv_whole, eq_self, IFP, IFdiv, IFpow, IFT, IFtt, sh_int, sh_bool, sh_none, sh_L, Bool.and_self, Bool.true_and, Bool.and_true, flatD, List.all_cons, List.all_nil, List.length_cons, List.length_nil, decide_true, decide_false, Bool.not_false, Bool.not_true, eqv_int, eqv_L, evSs, evS, evE, evEs, evI, mE, msCons, msNil, Es.isNil, cV, cC, cGl, vOf, cOp, opD, addD, mulD, Z.intD, mulOk_l, mulOk_r, cNeg, cCmp, cmpD, ordD, cNot, cIte, cLst, cTup, cCall, cCallIO, cBi, biD, lenD, listD, tupleD, int1D, int2D, allD, sumD, intsD, boolsD, strD, cIsi, isiD, cPopv, cMe, meD, cRev, revD, sMk, seqD, cLenv, cIxv, cSlv, cIx, ixD, cSl, slD, tE, tV, tNot, truD, esCons, bCons, tCons, tsCons, pOne, iIt, iRng, iEnu, tupOf, itD, rangeD, sAsg, sAsgT, sSetix, sApp, sExt, sExpr, sRet, sRetV, sIf, rdV, rdR, ownAt, putO, put1, ioB_no, ioB_imm, ioB_own, ioB_gs, putT, putR, fz, Res.d, O.d, Slot.o,
  List.getElem?_cons_zero, List.getElem?_cons_succ, List.set_cons_zero, List.set_cons_succ, if_true, if_false, ite_true, ite_false, Bool.false_eq_true, reduceIte, *])
/-! ### what is due -/
theorem shd : SeqAt.shaped (.str "data") = true := by
  have h : PyData.strOk "data" = true := by decide +kernel
  simp [SeqAt.shaped, PyData.canLay0, PyData.depth, h]
theorem shb : SeqAt.shaped (.str "block") = true := by
  have h : PyData.strOk "block" = true := by decide +kernel
  simp [SeqAt.shaped, PyData.canLay0, PyData.depth, h]
theorem eqdd : PyData.eqv (.str "data") (.str "data") = true := rfl
theorem eqbd : PyData.eqv (.str "block") (.str "data") = false := rfl
theorem at2_0 (a b : D) : L2.atI [a, b] 0 = some a := rfl
theorem at2_1 (a b : D) : L2.atI [a, b] 1 = some b := rfl
abbrev dueC : E := .bop true (.cons (.cmp .eq (.ixv 1 (.int 1)) (.op .add (.v 2) (.int 1))) (.cons (.cmp .gt (.lenv 0) (.op .mul (.int 64) (.v 2))) (.cons (.cmp .eq (.ix (.call 5 (.cons (.slv 0 .nil (.cons (.op .mul (.int 64) (.v 2)) .nil)) .nil)) (.int 0)) (.str "data")) .nil)))
def DueR (Γ : Fn) (v : List Int) (b M : Int) (r : Bool) : Prop :=
  (b ≠ M + 1 ∧ r = false) ∨ (b = M + 1 ∧ ¬ (64 * M < (v.length : Int)) ∧ r = false) ∨
    (b = M + 1 ∧ 64 * M < (v.length : Int) ∧ ((∃ y, Γ 5 none [.list (cutD (L v) none (some (64 * M)))] = some (.imm (.tuple [.str "block", y]), none) ∧ r = false) ∨ ∃ y, Γ 5 none [.list (cutD (L v) none (some (64 * M)))] = some (.imm (.tuple [.str "data", y]), none) ∧ r = true))
theorem due_cond (Γ : Fn) (v : List Int) (b M : Int) (r : Bool) (h : DueR Γ v b M r) (hM : -1000000 ≤ M ∧ M ≤ 1000000) :
    (evE Γ dueC).t [.imm (.list (L v)), .imm (.tuple [.str "block", .int b]), .imm (.int M)] = some (r, [.imm (.list (L v)), .imm (.tuple [.str "block", .int b]), .imm (.int M)]) := by
  have hL := L_len v
  have a1 := at2_1 (.str "block") (.int b)
  have s1 := shb
  have s2 := shd
  have e1 := eqdd
  have e2 := eqbd
  unfold dueC
  rcases h with ⟨h1, rfl⟩ | ⟨h1, h2, rfl⟩ | ⟨h1, h2, h3⟩
  · have d1 : decide (b = M + 1) = false := decide_eq_false h1
    walk_at "zs" <;> rfl
  · have d1 : decide (b = M + 1) = true := decide_eq_true h1
    have d2 : decide (64 * M < ((L v).length : Int)) = false := decide_eq_false (by rw [hL]; exact h2)
    clear hL h1 h2
    walk_at "zs" <;> rfl
  · have d1 : decide (b = M + 1) = true := decide_eq_true h1
    have d2 : decide (64 * M < ((L v).length : Int)) = true := decide_eq_true (by rw [hL]; exact h2)
    clear hL h1 h2
    rcases h3 with ⟨y, h3, rfl⟩ | ⟨y, h3, rfl⟩
    · have a2 := at2_0 (.str "block") y
      walk_at "z"
      rw [a1]
      walk_at "z"
      rw [d1]
      walk_at "z"
      rw [d2]
      walk_at "z"
      rw [h3]
      walk_at "zs"
    · have a2 := at2_0 (.str "data") y
      walk_at "z"
      rw [a1]
      walk_at "z"
      rw [d1]
      walk_at "z"
      rw [d2]
      walk_at "z"
      rw [h3]
      walk_at "zs"
abbrev manyM (v : List Int) : Int := if 63 < v.length then 256 * v.getD 2 0 + v.getD 3 0 else 0
theorem due_data (k : Nat) (v : List Int) (y : D) (h : run tb.T k i_data_of none [.list (L v)] = some (.imm (.tuple [.str "data", y]), none)) : run tb.T (k + 1) i_law_due none [.list (L v)] = some (.imm Sta.whole.d, none) := by
  show runD (run tb.T k) 3 b_law_due none [_] = _
  refine runD_of ?_
  show W (evSs _ b_law_due [.imm (.list (L v)), .no, .no]) _
  unfold b_law_due
  have hs := szl
  have a1 := at2_0 (.str "data") y
  have s2 := shd
  have e1 := eqdd
  refine W_next (env' := [.imm (.list (L v)), .imm (.tuple [.str "data", y]), .no]) ?_ ?_
  · walk_at "z"
    rw [h]
    rfl
  refine W_cons (W_if (k := true) (env' := [.imm (.list (L v)), .imm (.tuple [.str "data", y]), .no]) (by walk_at "zs") (fun _ => ?_) (fun z => nomatch z))
  exact W_ret (by walk_at "z"; rfl) ⟨rfl, rfl⟩
theorem due_block (k : Nat) (v : List Int) (b : Int) (r : Bool) (hb : 0 ≤ b ∧ b ≤ 1000) (h : run tb.T k i_data_of none [.list (L v)] = some (.imm (.tuple [.str "block", .int b]), none)) (hv : isB v) (hr : DueR (run tb.T k) v b (manyM v) r) :
    run tb.T (k + 1) i_law_due none [.list (L v)] = some (.imm (if r then Sta.whole.d else if 64 * b ≤ (v.length : Int) then .tuple [.str "block", .int b] else Sta.more.d), none) := by
  show runD (run tb.T k) 3 b_law_due none [_] = _
  refine runD_of ?_
  show W (evSs _ b_law_due [.imm (.list (L v)), .no, .no]) _
  unfold b_law_due
  have hs := szl
  have hL := L_len v
  have a0 := at2_0 (.str "block") (.int b)
  have a1 := at2_1 (.str "block") (.int b)
  have s1 := shb
  have s2 := shd
  have e1 := eqbd
  have gb : ∀ i : Nat, 0 ≤ v.getD i 0 ∧ v.getD i 0 < 256 := fun i => by
    by_cases hi : i < v.length
    · rw [List.getD_eq_getElem?_getD, List.getElem?_eq_getElem hi]
      exact hv _ (List.getElem_mem hi)
    · rw [List.getD_eq_getElem?_getD, List.getElem?_eq_none (by omega)]
      show (0 : Int) ≤ 0 ∧ (0 : Int) < 256
      omega
  have hMb : -1000000 ≤ manyM v ∧ manyM v ≤ 1000000 := by
    have g2 := gb 2
    have g3 := gb 3
    unfold manyM
    split <;> omega
  refine W_next (env' := [.imm (.list (L v)), .imm (.tuple [.str "block", .int b]), .no]) ?_ ?_
  · walk_at "z"
    rw [h]
    rfl
  refine W_cons (W_if (k := false) (env' := [.imm (.list (L v)), .imm (.tuple [.str "block", .int b]), .no]) (by clear hb; walk_at "zs") (fun z => nomatch z) (fun _ => W_nil ?_))
  refine W_next (env' := [.imm (.list (L v)), .imm (.tuple [.str "block", .int b]), .imm (.int (manyM v))]) ?_ ?_
  · by_cases hl : 63 < v.length
    · have d1 : decide ((63 : Int) < ((L v).length : Int)) = true := decide_eq_true (by omega)
      have a2 : L2.atI (L v) 2 = some (.int (v.getD 2 0)) := at_getD (i := 2) (by omega)
      have a3 : L2.atI (L v) 3 = some (.int (v.getD 3 0)) := at_getD (i := 3) (by omega)
      have e : manyM v = 256 * v.getD 2 0 + v.getD 3 0 := if_pos hl
      rw [e]
      walk_at "z"
      rw [d1]
      walk_at "z"
      rw [a2]
      walk_at "z"
      rw [a3]
      walk_at "z"
    · have d1 : decide ((63 : Int) < ((L v).length : Int)) = false := decide_eq_false (by omega)
      have e : manyM v = 0 := if_neg hl
      rw [e]
      walk_at "z"
      rw [d1]
      walk_at "z"
  have hc := due_cond (run tb.T k) v b (manyM v) r hr hMb
  generalize manyM v = M at *
  refine W_cons (W_if (k := r) (env' := [.imm (.list (L v)), .imm (.tuple [.str "block", .int b]), .imm (.int M)]) hc (fun hz => ?_) (fun hz => W_nil ?_))
  · subst hz
    exact W_ret (by walk_at "z"; rfl) ⟨rfl, rfl⟩
  · subst hz
    by_cases hl : 64 * b ≤ (v.length : Int)
    · have d1 : decide (64 * b ≤ ((L v).length : Int)) = true := decide_eq_true (by rw [hL]; exact hl)
      refine W_ret (r := .imm (.tuple [.str "block", .int b])) (env' := [.imm (.list (L v)), .imm (.tuple [.str "block", .int b]), .imm (.int M)]) ?_ ⟨by rw [if_pos hl]; rfl, rfl⟩
      walk_at "z"
      rw [a1]
      walk_at "z"
      rw [d1]
      rfl
    · have d1 : decide (64 * b ≤ ((L v).length : Int)) = false := decide_eq_false (by rw [hL]; exact hl)
      refine W_ret (r := .imm Sta.more.d) (env' := [.imm (.list (L v)), .imm (.tuple [.str "block", .int b]), .imm (.int M)]) ?_ ⟨by rw [if_neg hl]; rfl, rfl⟩
      walk_at "z"
      rw [a1]
      walk_at "z"
      rw [d1]
      rfl
end K48
namespace K48
open PySem PySem.Spec PyProof.Rows Z
local macro_rules | `(tactic| walk_at "z") => `(tactic| simp (disch := first | omega | assumption | decide | (apply IsP.l; assumption) | exact isl_ins) only [cFld, insAt, cNew, cMeth, sSetf, FS_state, FS_count, FS_taken, FS_rest, FS_len, FS_m1, FS_m2, FS_m3, FS_m4, put_state, put_count, put_taken, put_rest, sh_st, sh_mr, sh_wh, eqv_more, eqv_whole, eq_self, IFP, IFdiv, IFpow, IFT, IFtt, sh_int, sh_bool, sh_none, sh_L, Bool.and_self, Bool.true_and, Bool.and_true, flatD, List.all_cons, List.all_nil, List.length_cons, List.length_nil, decide_true, decide_false, Bool.not_false, Bool.not_true, eqv_int, eqv_L, evSs, evS, evE, evEs, evI, mE, msCons, msNil, Es.isNil, cV, cC, cGl, vOf, cOp, opD, addD, mulD, Z.intD, mulOk_l, mulOk_r, cNeg, cCmp, cmpD, ordD, cNot, cIte, cLst, cTup, cCall, cCallIO, cBi, biD, lenD, listD, tupleD, int1D, int2D, allD, sumD, intsD, boolsD, strD, cIsi, isiD, cPopv, cMe, meD, cRev, revD, sMk, seqD, cLenv, cIxv, cSlv, cIx, ixD, cSl, slD, tE, tV, tNot, truD, esCons, bCons, tCons, tsCons, pOne, iIt, iRng, iEnu, tupOf, itD, rangeD, sAsg, sAsgT, sSetix, sApp, sExt, sExpr, sRet, sRetV, sIf, rdV, rdR, ownAt, putO, put1, ioB_no, ioB_imm, ioB_own, ioB_gs, putT, putR, fz, Res.d, O.d, Slot.o,
  List.getElem?_cons_zero, List.getElem?_cons_succ, List.set_cons_zero, List.set_cons_succ, if_true, if_false, ite_true, ite_false, Bool.false_eq_true, reduceIte])
local macro_rules | `(tactic| walk_at "zs") => `(tactic| simp (disch := first | omega | assumption | decide | (apply IsP.l; assumption) | exact isl_ins) only [cFld, insAt, cNew, cMeth, sSetf, FS_state, FS_count, FS_taken, FS_rest, FS_len, FS_m1, FS_m2, FS_m3, FS_m4, put_state, put_count, put_taken, put_rest, sh_st, sh_mr, sh_wh, eqv_more, eqv_whole, eq_self, IFP, IFdiv, IFpow, IFT, IFtt, sh_int, sh_bool, sh_none, sh_L, Bool.and_self, Bool.true_and, Bool.and_true, flatD, List.all_cons, List.all_nil, List.length_cons, List.length_nil, decide_true, decide_false, Bool.not_false, Bool.not_true, eqv_int, eqv_L, evSs, evS, evE, evEs, evI, mE, msCons, msNil, Es.isNil, cV, cC, cGl, vOf, cOp, opD, addD, mulD, Z.intD, mulOk_l, mulOk_r, cNeg, cCmp, cmpD, ordD, cNot, cIte, cLst, cTup, cCall, cCallIO, cBi, biD, lenD, listD, tupleD, int1D, int2D, allD, sumD, intsD, boolsD, strD, cIsi, isiD, cPopv, cMe, meD, cRev, revD, sMk, seqD, cLenv, cIxv, cSlv, cIx, ixD, cSl, slD, tE, tV, tNot, truD, esCons, bCons, tCons, tsCons, pOne, iIt, iRng, iEnu, tupOf, itD, rangeD, sAsg, sAsgT, sSetix, sApp, sExt, sExpr, sRet, sRetV, sIf, rdV, rdR, ownAt, putO, put1, ioB_no, ioB_imm, ioB_own, ioB_gs, putT, putR, fz, Res.d, O.d, Slot.o,
  List.getElem?_cons_zero, List.getElem?_cons_succ, List.set_cons_zero, List.set_cons_succ, if_true, if_false, ite_true, ite_false, Bool.false_eq_true, reduceIte, *])
/-! ### what is due of a good word's begin -/
theorem many_hd {v : List Int} : many (piece v 0) = 256 * v.getD 2 0 + v.getD 3 0 := by
  unfold many piece
  rw [Nat.mul_zero, List.drop_zero, List.getD_eq_getElem?_getD, List.getD_eq_getElem?_getD, List.getElem?_take_of_lt (by omega), List.getElem?_take_of_lt (by omega), List.getD_eq_getElem?_getD, List.getD_eq_getElem?_getD]
theorem piece_take {w : List Int} {i n : Nat} (h : 64 * (i + 1) ≤ n) : piece (w.take n) i = piece w i := by
  unfold piece
  rw [List.drop_take, List.take_take, Nat.min_eq_left (by omega)]
theorem right_take {w : List Int} {c q n : Nat} (R : Right w c q) (h : 64 * q ≤ n) : Right (w.take n) c q := fun i hi => by
  rw [piece_take (by omega)]
  exact R i hi
theorem datas_cut {w : List Int} {n : Nat} : ∀ q, 64 * q ≤ n → datas (w.take n) q = datas w q
  | 0, _ => rfl
  | q + 1, h => by rw [datas_succ, datas_succ, datas_cut q (by omega), piece_take (by omega)]
theorem f_empty (k : Nat) : run tb.T (k + 4) i_data_of none [.list (L [])] = some (.imm (.tuple [.str "block", .int 1]), none) :=
  data_block k [] 1 0 (fun _ h => nomatch h) (by decide) (fun i hi => absurd hi (by omega)) (isBlk_short (by decide))
theorem f_due {bs w : List Int} {m : Nat} (G : Gd bs w m) (k n : Nat) (hn : n ≤ w.length) : run tb.T (k + 5) i_law_due none [.list (L (w.take n))] = some (.imm (stJ (cntN bs.length) m (n / 64)).d, none) := by
  have hc : cntN bs.length ≤ 100 := cnt_small G.lb
  have hc1 : 1 ≤ cntN bs.length := (cnt_ge bs.length).2.2
  have hle := G.le
  have hvl : (w.take n).length = n := by rw [List.length_take]; omega
  have hvB : isB (w.take n) := isB_take G.isb n
  have hMc : 1 ≤ m → 64 ≤ n → manyM (w.take n) = ((cntN bs.length : Nat) : Int) := fun h1 h2 => by
    have e : manyM (w.take n) = 256 * (w.take n).getD 2 0 + (w.take n).getD 3 0 := if_pos (by omega)
    rw [e, ← many_hd, piece_take (by omega)]
    exact (G.R 0 (by omega)).2
  have zero : ∀ M : Int, M = 0 → cutD (L (w.take n)) none (some (64 * M)) = L [] := fun M h => by
    rw [h, show (64 : Int) * 0 = ((0 : Nat) : Int) from rfl, cut_to]
    rfl
  by_cases hm : n / 64 ≤ m ∧ n / 64 < cntN bs.length
  · -- more
    rw [stJ_more hm]
    have hsh : isBlk (piece (w.take n) (n / 64)) (((n / 64 : Nat) : Int) + 1) (if n / 64 = 0 then none else some ((cntN bs.length : Nat) : Int)) = false := isBlk_short (by
      unfold piece
      rw [List.length_take, List.length_drop, hvl]
      omega)
    have h1 := data_block k (w.take n) (cntN bs.length) (n / 64) hvB ⟨hm.2, hc⟩ (right_take (fun i hi => G.R i (by omega)) (by omega)) hsh
    have h2 := due_block (k + 4) (w.take n) (((n / 64 : Nat) : Int) + 1) false (by omega) h1 hvB (by
      by_cases hq : n / 64 = 0
      · have hM : manyM (w.take n) = 0 := if_neg (by omega)
        right
        by_cases h0 : n = 0
        · left
          rw [hM, hvl]
          exact ⟨by omega, by omega, rfl⟩
        · right
          rw [zero _ hM, hM, hvl]
          exact ⟨by omega, by omega, .inl ⟨_, f_empty k, rfl⟩⟩
      · left
        rw [hMc (by omega) (by omega)]
        exact ⟨by omega, rfl⟩)
    rw [if_neg Bool.false_ne_true, if_neg (by rw [hvl]; omega)] at h2
    exact h2
  · by_cases hmc : m = cntN bs.length
    · -- whole
      have hst : stJ (cntN bs.length) m (n / 64) = .whole := by
        unfold stJ
        rw [if_neg hm, if_pos hmc]
      rw [hst]
      have hq : 64 * cntN bs.length ≤ n := by omega
      have hR : Right w (cntN bs.length) (cntN bs.length) := by
        have := G.R
        rw [hmc] at this
        exact this
      have hd : datas w (cntN bs.length) = dataP bs := by
        have := G.hd hmc
        rw [hmc] at this
        exact this
      have key : ∀ j, 64 * cntN bs.length ≤ j → run tb.T (k + 4) i_data_of none [.list (L (w.take j))] = some (.imm (.tuple (if 64 * cntN bs.length < (w.take j).length then [.str "block", .int ((cntN bs.length : Int) + 1)] else [.str "data", .list (L bs)])), none) := fun j hj =>
        data_some k (w.take j) bs (isB_take G.isb j) G.lb (right_take hR hj) ((datas_cut _ hj).trans hd)
      have h1 := key n hq
      rw [hvl] at h1
      by_cases he : 64 * cntN bs.length < n
      · rw [if_pos he] at h1
        have h2 := due_block (k + 4) (w.take n) ((cntN bs.length : Int) + 1) true (by omega) h1 hvB (by
          right
          right
          rw [hMc (by omega) (by omega), hvl]
          refine ⟨rfl, by omega, .inr ⟨.list (L bs), ?_, rfl⟩⟩
          have h3 := key (64 * cntN bs.length) (Nat.le_refl _)
          rw [if_neg (by rw [List.length_take]; omega)] at h3
          rw [show (64 : Int) * ((cntN bs.length : Nat) : Int) = ((64 * cntN bs.length : Nat) : Int) by omega, cut_to, List.take_take, Nat.min_eq_left hq]
          exact h3)
        rw [if_pos rfl] at h2
        exact h2
      · rw [if_neg he] at h1
        exact due_data (k + 4) _ _ h1
    · -- a wrong block
      have hst : stJ (cntN bs.length) m (n / 64) = .blk (m + 1) := by
        unfold stJ
        rw [if_neg hm, if_neg hmc]
      rw [hst]
      have hbad := G.bad.resolve_left hmc
      have hq : 64 * (m + 1) ≤ n := by omega
      rw [← piece_take (n := n) (w := w) hq] at hbad
      have h1 := data_block k (w.take n) (cntN bs.length) m hvB ⟨by omega, hc⟩ (right_take G.R (by omega)) hbad
      have h2 := due_block (k + 4) (w.take n) ((m : Int) + 1) false (by omega) h1 hvB (by
        by_cases h0 : m = 0
        · by_cases hM : manyM (w.take n) = 0
          · right
            right
            rw [zero _ hM, hM, hvl]
            exact ⟨by omega, by omega, .inl ⟨_, f_empty k, rfl⟩⟩
          · left
            exact ⟨by omega, rfl⟩
        · left
          rw [hMc (by omega) (by omega)]
          exact ⟨by omega, rfl⟩)
      rw [if_neg Bool.false_ne_true, if_pos (by rw [hvl]; omega)] at h2
      rw [h2]
      show some (Res.imm (.tuple [.str "block", .int ((m : Int) + 1)]), none) = some (Res.imm (.tuple [.str "block", .int ((m + 1 : Nat) : Int)]), none)
      rw [show ((m + 1 : Nat) : Int) = (m : Int) + 1 by omega]
end K48
namespace K48
open PySem PySem.Spec PyProof.Rows Z
local macro_rules | `(tactic| walk_at "z") => `(tactic| simp (disch := first | omega | assumption | decide | (apply IsP.l; assumption)) only [IFP, IFdiv, IFpow, IFT, IFtt, sh_int, sh_bool, sh_none, sh_L, Bool.and_self, Bool.true_and, Bool.and_true, flatD, List.all_cons, List.all_nil, List.length_cons, List.length_nil, decide_true, decide_false, Bool.not_false, Bool.not_true, eqv_int, eqv_L, evSs, evS, evE, evEs, evI, mE, msCons, msNil, Es.isNil, cV, cC, cGl, vOf, cOp, opD, addD, mulD, Z.intD, mulOk_l, mulOk_r, cNeg, cCmp, cmpD, ordD, cNot, cIte, cLst, cTup, cCall, cCallIO, cBi, biD, lenD, listD, tupleD, int1D, int2D, allD, sumD, intsD, boolsD, strD, cIsi, isiD, cPopv, cMe, meD, cRev, revD, sMk, seqD, cLenv, cIxv, cSlv, cIx, ixD, cSl, slD, tE, tV, tNot, truD, esCons, bCons, tCons, tsCons, pOne, iIt, iRng, iEnu, tupOf, itD, rangeD, sAsg, sAsgT, sSetix, sApp, sExt, sExpr, sRet, sRetV, sIf, rdV, rdR, ownAt, putO, put1, ioB_no, ioB_imm, ioB_own, ioB_gs, putT, putR, fz, Res.d, O.d, Slot.o,
  List.getElem?_cons_zero, List.getElem?_cons_succ, List.set_cons_zero, List.set_cons_succ, if_true, if_false, ite_true, ite_false, Bool.false_eq_true, reduceIte])
local macro_rules | `(tactic| walk_at "zs") => `(tactic| simp (disch := first | omega | assumption | decide | (apply IsP.l; assumption)) only [IFP, IFdiv, IFpow, IFT, IFtt, sh_int, sh_bool, sh_none, sh_L, Bool.and_self, Bool.true_and, Bool.and_true, flatD, List.all_cons, List.all_nil, List.length_cons, List.length_nil, decide_true, decide_false, Bool.not_false, Bool.not_true, eqv_int, eqv_L, evSs, evS, evE, evEs, evI, mE, msCons, msNil, Es.isNil, cV, cC, cGl, vOf, cOp, opD, addD, mulD, Z.intD, mulOk_l, mulOk_r, cNeg, cCmp, cmpD, ordD, cNot, cIte, cLst, cTup, cCall, cCallIO, cBi, biD, lenD, listD, tupleD, int1D, int2D, allD, sumD, intsD, boolsD, strD, cIsi, isiD, cPopv, cMe, meD, cRev, revD, sMk, seqD, cLenv, cIxv, cSlv, cIx, ixD, cSl, slD, tE, tV, tNot, truD, esCons, bCons, tCons, tsCons, pOne, iIt, iRng, iEnu, tupOf, itD, rangeD, sAsg, sAsgT, sSetix, sApp, sExt, sExpr, sRet, sRetV, sIf, rdV, rdR, ownAt, putO, put1, ioB_no, ioB_imm, ioB_own, ioB_gs, putT, putR, fz, Res.d, O.d, Slot.o,
  List.getElem?_cons_zero, List.getElem?_cons_succ, List.set_cons_zero, List.set_cons_succ, if_true, if_false, ite_true, ite_false, Bool.false_eq_true, reduceIte, *])
/-! ### is_plain -/
abbrev qd (q : List (D × Nat)) : List D := q.map fun p => .tuple [p.1, .int ((p.2 : Nat) : Int)]
theorem in_sign {c : Nat} (h : c ∈ SG) : cmpD .in_ (.str ⟨#[c]⟩) (.str sgS) = some true := by
  show some (!(Builtin.Str.occurrences sgS ⟨#[c]⟩ 0 sgS.length 1).isEmpty) = _
  rw [(sg_of h).1]
  rfl
theorem ip_comp1 (k : Nat) (d : D) (q xs : List D) (n : Nat) (hz : xs.length < sizeLine) :
    cComp (evE (run tb.T k) e_is_plain_1).e 4 (evI (run tb.T k) q_is_plain_1) (fun env => some (true, env)) [.imm d, .own (.lst q), .imm (.tuple xs), .imm (.int (n : Nat)), .no, .no] =
      some (Res.own (O.lst (qd (xs.map fun x => (x, n + 1)))), [.imm d, .own (.lst q), .imm (.tuple xs), .imm (.int (n : Nat)), .no, .no]) := by
  refine comp_mapY (ds := xs) (s := .no) (fun x => .tuple [x, .int ((n + 1 : Nat) : Int)]) ?_ rfl rfl hz (fun x hx => ?_) (by rw [qd, List.map_map]; rfl)
  · unfold q_is_plain_1
    walk_at "z"
  · clear hx
    show fz ((evE (run tb.T k) e_is_plain_1).e [.imm d, .own (.lst q), .imm (.tuple xs), .imm (.int (n : Nat)), .imm x, .no]) = some (.tuple [x, .int ((n + 1 : Nat) : Int)], [.imm d, .own (.lst q), .imm (.tuple xs), .imm (.int (n : Nat)), .imm x, .no])
    unfold e_is_plain_1
    rw [show ((n + 1 : Nat) : Int) = (n : Int) + 1 by omega]
    have hs := szl
    walk_at "z"
theorem ip_comp2 (k : Nat) (d : D) (q : List D) (s : Str) (n : Nat) (h : ∀ c ∈ s.cps.toList, c ∈ SG) (hz : s.length ≤ 5000) :
    cComp (evE (run tb.T k) e_is_plain_2).e 5 (evI (run tb.T k) q_is_plain_2) (fun env => some (true, env)) [.imm d, .own (.lst q), .imm (.str s), .imm (.int (n : Nat)), .no, .no] =
      some (Res.own (O.lst (List.replicate s.length (.bool true))), [.imm d, .own (.lst q), .imm (.str s), .imm (.int (n : Nat)), .no, .no]) := by
  have hs := szl
  refine comp_mapY (ds := s.cps.toList.map fun c => PyData.str ⟨#[c]⟩) (s := .no) (fun _ => .bool true) ?_ rfl rfl (by rw [List.length_map, slen]; omega) (fun d2 hd => ?_) (by
    rw [List.map_map, List.eq_replicate_iff]
    refine ⟨by rw [List.length_map, slen], fun b hb => ?_⟩
    obtain ⟨_, _, rfl⟩ := List.mem_map.mp hb
    rfl)
  · unfold q_is_plain_2
    walk_at "z" <;> rfl
  · obtain ⟨c, hc, rfl⟩ := List.mem_map.mp hd
    have hm := in_sign (h c hc)
    show fz ((evE (run tb.T k) e_is_plain_2).e [.imm d, .own (.lst q), .imm (.str s), .imm (.int (n : Nat)), .no, .imm (.str ⟨#[c]⟩)]) = some (.bool true, [.imm d, .own (.lst q), .imm (.str s), .imm (.int (n : Nat)), .no, .imm (.str ⟨#[c]⟩)])
    unfold e_is_plain_2
    show fz (match cmpD .in_ (.str ⟨#[c]⟩) (.str sgS) with | none => none | some r => some (Res.imm (.bool r), [Slot.imm d, .own (.lst q), .imm (.str s), .imm (.int (n : Nat)), .no, .imm (.str ⟨#[c]⟩)])) = _
    rw [hm]
    rfl
theorem f_is_plain (n : Nat) (d : D) (h : Pl n d) (hn : n ≤ 60) (hl : (enc d).length ≤ 5000) (k : Nat) : run tb.T (k + 1) i_is_plain none [d] = some (.imm (.bool true), none) := by
  have hs := szl
  show runD (run tb.T k) 6 b_is_plain none [d] = _
  refine runD_of ?_
  show W (evSs _ b_is_plain [.imm d, .no, .no, .no, .no, .no]) _
  unfold b_is_plain
  refine W_next (env' := [.imm d, .own (.lst (qd [(d, 0)])), .no, .no, .no, .no]) (by walk_at "z" <;> rfl) ?_
  refine W_cons ?_
  refine W_while (fun m e => ∃ (q : List (D × Nat)) (x2 x3 : Option D), e = [.imm d, .own (.lst (qd q)), gs x2, gs x3, .no, .no] ∧ (∀ p ∈ q, ∃ n, Pl n p.1 ∧ n + p.2 ≤ 60) ∧ m = (encs (q.map (·.1))).length ∧ m ≤ 5000) (encs [d]).length ⟨[(d, 0)], none, none, rfl, ?_, rfl, ?_⟩ ?_
  · intro p hp
    rw [List.mem_singleton] at hp
    rw [hp]
    exact ⟨n, h, by omega⟩
  · rw [encs, encs, List.append_nil]
    exact hl
  rintro m e ⟨q, x2, x3, rfl, hq, hm, hm5⟩
  rcases list_last q with rfl | ⟨q0, ⟨y, dp⟩, rfl⟩
  · refine W.eq (a := false) (e := [.imm d, .own (.lst []), gs x2, gs x3, .no, .no]) (by walk_at "z" <;> rfl) ?_
    exact W_ret (env' := [.imm d, .own (.lst []), gs x2, gs x3, .no, .no]) (by walk_at "z" <;> rfl) ⟨rfl, by cases x2 <;> cases x3 <;> rfl⟩
  · refine W.eq (a := true) (e := [.imm d, .own (.lst (qd (q0 ++ [(y, dp)]))), gs x2, gs x3, .no, .no]) ?_ ?_
    · have : (!(qd (q0 ++ [(y, dp)])).isEmpty) = true := by cases q0 <;> rfl
      generalize qd (q0 ++ [(y, dp)]) = qq at this
      walk_at "z"
      rw [this]
    show W (evSs _ l_is_plain_1 _) _
    unfold l_is_plain_1
    rw [List.map_append, encs_app, List.length_append, List.map_cons, List.map_nil, encs, encs, List.append_nil] at hm
    have hq0 : ∀ p ∈ q0, ∃ n, Pl n p.1 ∧ n + p.2 ≤ 60 := fun p hp => hq p (List.mem_append_left _ hp)
    obtain ⟨ny, hy, hdp⟩ := hq (y, dp) (by simp)
    have hy : Pl ny y := hy
    have hm : m = (encs (q0.map (·.1))).length + (enc y).length := hm
    have hdp : ny + dp ≤ 60 := hdp
    have hpos := enc_pos hy
    have hlq := encs_ge' (xs := q0.map (·.1)) fun x hx => by
      obtain ⟨p, hp, rfl⟩ := List.mem_map.mp hx
      obtain ⟨n, hn, _⟩ := hq0 p hp
      exact ⟨n, hn⟩
    rw [List.length_map] at hlq
    have hqd : (qd q0).length = q0.length := List.length_map _
    refine W_next (env' := [.imm d, .own (.lst (qd q0)), .imm y, .imm (.int (dp : Nat)), .no, .no]) ?_ ?_
    · have e0 : qd (q0 ++ [(y, dp)]) = qd q0 ++ [.tuple [y, .int ((dp : Nat) : Int)]] := by
        unfold qd
        rw [List.map_append]
        rfl
      rw [e0]
      have e1 : (qd q0 ++ [PyData.tuple [y, .int ((dp : Nat) : Int)]])[(qd q0 ++ [PyData.tuple [y, .int ((dp : Nat) : Int)]]).length - 1]? = some (.tuple [y, .int ((dp : Nat) : Int)]) := by simp
      have e2 : (qd q0 ++ [PyData.tuple [y, .int ((dp : Nat) : Int)]]).dropLast = qd q0 := by simp
      generalize qd q0 ++ [PyData.tuple [y, .int ((dp : Nat) : Int)]] = qq at e1 e2 ⊢
      walk_at "z"
      rw [e1]
      walk_at "z"
      rw [e2]
    cases hy with
    | int _ i h1 h2 =>
      refine W_cons (W_if (k := false) (env' := [.imm d, .own (.lst (qd q0)), .imm (.int i), .imm (.int (dp : Nat)), .no, .no]) (by walk_at "z" <;> rfl) (fun z => nomatch z) (fun _ => ?_))
      refine W_cons (W_if (k := false) (env' := [.imm d, .own (.lst (qd q0)), .imm (.int i), .imm (.int (dp : Nat)), .no, .no]) (by walk_at "z" <;> rfl) (fun z => nomatch z) (fun _ => ?_))
      refine W_cons (W_if (k := false) (env' := [.imm d, .own (.lst (qd q0)), .imm (.int i), .imm (.int (dp : Nat)), .no, .no]) (by walk_at "z" <;> rfl) (fun z => nomatch z) (fun _ => ?_))
      exact W_nil (W_nil (W_nil (W_nil ⟨(encs (q0.map (·.1))).length, by omega, q0, some (.int i), some _, rfl, hq0, rfl, by omega⟩)))
    | str _ s hc =>
      have hsl : s.length ≤ 5000 := by
        rw [enc, List.length_cons, List.length_append, List.length_map, slen] at hm
        omega
      have hcc := ip_comp2 k d (qd q0) s dp hc hsl
      have hb := bools_rep s.length
      have ha := all_rep s.length
      refine W_cons (W_if (k := false) (env' := [.imm d, .own (.lst (qd q0)), .imm (.str s), .imm (.int (dp : Nat)), .no, .no]) (by walk_at "z" <;> rfl) (fun z => nomatch z) (fun _ => ?_))
      refine W_cons (W_if (k := true) (env' := [.imm d, .own (.lst (qd q0)), .imm (.str s), .imm (.int (dp : Nat)), .no, .no]) (by walk_at "z" <;> rfl) (fun _ => ?_) (fun z => nomatch z))
      refine W_cons (W_if (k := false) (env' := [.imm d, .own (.lst (qd q0)), .imm (.str s), .imm (.int (dp : Nat)), .no, .no]) ?_ (fun z => nomatch z) (fun _ => ?_))
      · generalize List.replicate s.length (PyData.bool true) = bb at hcc hb
        generalize qd q0 = qq at *
        walk_at "z"
        rw [hcc]
        walk_at "z"
        rw [hb]
        walk_at "z"
        rw [ha]
        rfl
      exact W_nil (W_nil (W_nil (W_nil ⟨(encs (q0.map (·.1))).length, by omega, q0, some (.str s), some _, rfl, hq0, rfl, by omega⟩)))
    | tup n2 xs hxs =>
      rw [enc] at hm
      rw [List.length_cons, List.length_append] at hm
      have hge := encs_ge hxs
      have d1 : decide (((dp : Nat) : Int) < 60) = true := decide_eq_true (by omega)
      have hcc := ip_comp1 k d (qd q0) xs dp (by omega)
      refine W_cons (W_if (k := true) (env' := [.imm d, .own (.lst (qd q0)), .imm (.tuple xs), .imm (.int (dp : Nat)), .no, .no]) ?_ (fun _ => ?_) (fun z => nomatch z))
      · generalize qd q0 = qq at *
        walk_at "z"
        rw [d1]
      have happ : qd q0 ++ qd (xs.map fun x => (x, dp + 1)) = qd (q0 ++ xs.map fun x => (x, dp + 1)) := by
        unfold qd
        rw [List.map_append]
      have hlen2 : (qd (xs.map fun x => (x, dp + 1))).length = xs.length := by simp [qd]
      refine W_next (env' := [.imm d, .own (.lst (qd (q0 ++ xs.map fun x => (x, dp + 1)))), .imm (.tuple xs), .imm (.int (dp : Nat)), .no, .no]) ?_ (W_nil (W_nil ⟨_, ?_, q0 ++ xs.map (fun x => (x, dp + 1)), some (.tuple xs), some _, rfl, ?_, rfl, ?_⟩))
      · rw [← happ]
        generalize qd (xs.map fun x => (x, dp + 1)) = q2 at *
        generalize qd q0 = qq at *
        walk_at "z"
        rw [hcc]
        walk_at "z"
      · rw [List.map_append, List.map_map, encs_app, List.length_append]
        have : (xs.map ((fun p : D × Nat => p.1) ∘ fun x => (x, dp + 1))) = xs := by
          conv => rhs; rw [← List.map_id xs]
          rfl
        rw [this]
        omega
      · intro p hp
        rcases List.mem_append.mp hp with hp | hp
        · exact hq0 p hp
        · obtain ⟨x, hx, rfl⟩ := List.mem_map.mp hp
          exact ⟨n2, hxs x hx, by show n2 + (dp + 1) ≤ 60; omega⟩
      · rw [List.map_append, List.map_map, encs_app, List.length_append]
        have : (xs.map ((fun p : D × Nat => p.1) ∘ fun x => (x, dp + 1))) = xs := by
          conv => rhs; rw [← List.map_id xs]
          rfl
        rw [this]
        omega
end K48
namespace K48
open PySem PySem.Spec PyProof.Rows Z
local macro_rules | `(tactic| walk_at "z") => `(tactic| simp (disch := first | omega | assumption | decide | (apply IsP.l; assumption)) only [IFP, IFdiv, IFpow, IFT, IFtt, sh_int, sh_bool, sh_none, sh_L, Bool.and_self, Bool.true_and, Bool.and_true, flatD, List.all_cons, List.all_nil, List.length_cons, List.length_nil, decide_true, decide_false, Bool.not_false, Bool.not_true, eqv_int, eqv_L, evSs, evS, evE, evEs, evI, mE, msCons, msNil, Es.isNil, cV, cC, cGl, vOf, cOp, opD, addD, mulD, Z.intD, mulOk_l, mulOk_r, cNeg, cCmp, cmpD, ordD, cNot, cIte, cLst, cTup, cCall, cCallIO, cBi, biD, lenD, listD, tupleD, int1D, int2D, allD, sumD, intsD, boolsD, strD, cIsi, isiD, cPopv, cMe, meD, cRev, revD, sMk, seqD, cLenv, cIxv, cSlv, cIx, ixD, cSl, slD, tE, tV, tNot, truD, esCons, bCons, tCons, tsCons, pOne, iIt, iRng, iEnu, tupOf, itD, rangeD, sAsg, sAsgT, sSetix, sApp, sExt, sExpr, sRet, sRetV, sIf, rdV, rdR, ownAt, putO, put1, ioB_no, ioB_imm, ioB_own, ioB_gs, putT, putR, fz, Res.d, O.d, Slot.o,
  List.getElem?_cons_zero, List.getElem?_cons_succ, List.set_cons_zero, List.set_cons_succ, if_true, if_false, ite_true, ite_false, Bool.false_eq_true, reduceIte])
local macro_rules | `(tactic| walk_at "zs") => `(tactic| simp (disch := first | omega | assumption | decide | (apply IsP.l; assumption)) only [IFP, IFdiv, IFpow, IFT, IFtt, sh_int, sh_bool, sh_none, sh_L, Bool.and_self, Bool.true_and, Bool.and_true, flatD, List.all_cons, List.all_nil, List.length_cons, List.length_nil, decide_true, decide_false, Bool.not_false, Bool.not_true, eqv_int, eqv_L, evSs, evS, evE, evEs, evI, mE, msCons, msNil, Es.isNil, cV, cC, cGl, vOf, cOp, opD, addD, mulD, Z.intD, mulOk_l, mulOk_r, cNeg, cCmp, cmpD, ordD, cNot, cIte, cLst, cTup, cCall, cCallIO, cBi, biD, lenD, listD, tupleD, int1D, int2D, allD, sumD, intsD, boolsD, strD, cIsi, isiD, cPopv, cMe, meD, cRev, revD, sMk, seqD, cLenv, cIxv, cSlv, cIx, ixD, cSl, slD, tE, tV, tNot, truD, esCons, bCons, tCons, tsCons, pOne, iIt, iRng, iEnu, tupOf, itD, rangeD, sAsg, sAsgT, sSetix, sApp, sExt, sExpr, sRet, sRetV, sIf, rdV, rdR, ownAt, putO, put1, ioB_no, ioB_imm, ioB_own, ioB_gs, putT, putR, fz, Res.d, O.d, Slot.o,
  List.getElem?_cons_zero, List.getElem?_cons_succ, List.set_cons_zero, List.set_cons_succ, if_true, if_false, ite_true, ite_false, Bool.false_eq_true, reduceIte, *])
/-! ### values are drawn -/
theorem compL_inv {f : Z.Env → Option (D × Z.Env)} {j : Nat} (Q : Z.Env → Prop) (R : D → Prop) (hstep : ∀ (e : Z.Env) (d : D), Q e → ∃ y e', f (e.set j (.imm d)) = some (y, e') ∧ R y ∧ Q e' ∧ isIo e' j = false) :
    ∀ (ds : List D) (e : Z.Env), Q e → ∃ ys e', compL (fun env => some (true, env)) f j ds e = some (ys, e') ∧ ys.length = ds.length ∧ (∀ y ∈ ys, R y) ∧ Q e'
  | [], e, h => ⟨[], e, rfl, rfl, (fun y hy => nomatch hy), h⟩
  | d :: ds, e, h => by
    obtain ⟨y, e1, h1, h2, h3, h4⟩ := hstep e d h
    obtain ⟨ys, e2, g1, g2, g3, g4⟩ := compL_inv Q R hstep ds e1 h3
    refine ⟨y :: ys, e2, ?_, by rw [List.length_cons, List.length_cons, g2], fun z hz => ?_, g4⟩
    · unfold compL
      show (match f (e.set j (.imm d)) with
        | none => none
        | some (y, env) => if isIo env j then none else match compL (fun env => some (true, env)) f j ds env with
          | none => none
          | some (ys, env) => some (y :: ys, env)) = _
      rw [h1]
      show (if isIo e1 j then none else match compL (fun env => some (true, env)) f j ds e1 with
          | none => none
          | some (ys, env) => some (y :: ys, env)) = _
      rw [h4, g1]
      rfl
    · rcases List.mem_cons.mp hz with hz | hz
      · rw [hz]; exact h2
      · exact g3 z hz
theorem comp_inv {elt : ME} {j : Nat} {src : MEs} {env env1 : Z.Env} {ds : List D} {s : Slot} (Q : Z.Env → Prop) (R : D → Prop) (hsrc : src env = some (ds, env1)) (hs : env1[j]? = some s) (hk : keepS s = true) (hz : ds.length < sizeLine) (h0 : Q (env1.set j .no))
    (hstep : ∀ (e : Z.Env) (d : D), Q e → ∃ y e', fz (elt (e.set j (.imm d))) = some (y, e') ∧ R y ∧ Q e' ∧ isIo e' j = false) :
    ∃ ys e', cComp elt j src (fun env => some (true, env)) env = some (Res.own (O.lst ys), e'.set j s) ∧ ys.length = ds.length ∧ (∀ y ∈ ys, R y) ∧ Q e' := by
  obtain ⟨ys, e', g1, g2, g3, g4⟩ := compL_inv (f := fun e => fz (elt e)) (j := j) Q R hstep ds _ h0
  refine ⟨ys, e', ?_, g2, g3, g4⟩
  unfold cComp
  rw [hsrc]
  show (match env1[j]? with
    | none => none
    | some s => if keepS s then match compL (fun env => some (true, env)) (fun e => fz (elt e)) j ds (env1.set j .no) with
      | none => none
      | some (ys, env) => IF (ds.length < sizeLine) (some (Res.own (O.lst ys), env.set j s))
      else none) = _
  rw [hs]
  show (if keepS s then match compL (fun env => some (true, env)) (fun e => fz (elt e)) j ds (env1.set j .no) with
      | none => none
      | some (ys, env) => IF (ds.length < sizeLine) (some (Res.own (O.lst ys), env.set j s))
      else none) = _
  rw [hk, g1]
  show IF (ds.length < sizeLine) (some (Res.own (O.lst ys), e'.set j s)) = _
  rw [IFP hz]
theorem f_pick (k : Nat) (o : O) (xs : List D) (ho : IsP o) (hx : 0 < xs.length ∧ xs.length < 1000) : ∃ d o', run tb.T (k + 4) i_law_pick (some o) [.list xs] = some (.imm d, some o') ∧ IsP o' ∧ d ∈ xs := by
  obtain ⟨v, o2, h1, h2, h3, h4⟩ := f_draw k o xs.length ho (by omega)
  obtain ⟨n, rfl⟩ : ∃ n : Nat, v = (n : Int) := ⟨v.toNat, by omega⟩
  have hv : n < xs.length := by omega
  have hg : L2.atI xs ((n : Nat) : Int) = some xs[n] := L2.atI_nat (List.getElem?_eq_getElem hv)
  refine ⟨xs[n], o2, ?_, h2, List.getElem_mem hv⟩
  generalize xs[n] = d at *
  show runD (run tb.T (k + 3)) 2 b_law_pick (some o) [.list xs] = _
  refine runD_of ?_
  show W (evSs _ b_law_pick [.io o, .imm (.list xs)]) _
  unfold b_law_pick
  refine W_ret (env' := [.io o2, .imm (.list xs)]) ?_ ⟨rfl, rfl⟩
  walk_at "z"
  rw [h1]
  walk_at "z"
  rw [hg]
end K48
namespace K48
open PySem PySem.Spec PyProof.Rows Z
local macro_rules | `(tactic| walk_at "z") => `(tactic| simp (disch := first | omega | assumption | decide | (apply IsP.l; assumption)) only [IFP, IFdiv, IFpow, IFT, IFtt, sh_int, sh_bool, sh_none, sh_L, Bool.and_self, Bool.true_and, Bool.and_true, flatD, List.all_cons, List.all_nil, List.length_cons, List.length_nil, decide_true, decide_false, Bool.not_false, Bool.not_true, eqv_int, eqv_L, evSs, evS, evE, evEs, evI, mE, msCons, msNil, Es.isNil, cV, cC, cGl, vOf, cOp, opD, addD, mulD, Z.intD, mulOk_l, mulOk_r, cNeg, cCmp, cmpD, ordD, cNot, cIte, cLst, cTup, cCall, cCallIO, cBi, biD, lenD, listD, tupleD, int1D, int2D, allD, sumD, intsD, boolsD, strD, cIsi, isiD, cPopv, cMe, meD, cRev, revD, sMk, seqD, cLenv, cIxv, cSlv, cIx, ixD, cSl, slD, tE, tV, tNot, truD, esCons, bCons, tCons, tsCons, pOne, iIt, iRng, iEnu, tupOf, itD, rangeD, sAsg, sAsgT, sSetix, sApp, sExt, sExpr, sRet, sRetV, sIf, rdV, rdR, ownAt, putO, put1, ioB_no, ioB_imm, ioB_own, ioB_gs, putT, putR, fz, Res.d, O.d, Slot.o,
  List.getElem?_cons_zero, List.getElem?_cons_succ, List.set_cons_zero, List.set_cons_succ, if_true, if_false, ite_true, ite_false, Bool.false_eq_true, reduceIte])
local macro_rules | `(tactic| walk_at "zs") => `(tactic| simp (disch := first | omega | assumption | decide | (apply IsP.l; assumption)) only [IFP, IFdiv, IFpow, IFT, IFtt, sh_int, sh_bool, sh_none, sh_L, Bool.and_self, Bool.true_and, Bool.and_true, flatD, List.all_cons, List.all_nil, List.length_cons, List.length_nil, decide_true, decide_false, Bool.not_false, Bool.not_true, eqv_int, eqv_L, evSs, evS, evE, evEs, evI, mE, msCons, msNil, Es.isNil, cV, cC, cGl, vOf, cOp, opD, addD, mulD, Z.intD, mulOk_l, mulOk_r, cNeg, cCmp, cmpD, ordD, cNot, cIte, cLst, cTup, cCall, cCallIO, cBi, biD, lenD, listD, tupleD, int1D, int2D, allD, sumD, intsD, boolsD, strD, cIsi, isiD, cPopv, cMe, meD, cRev, revD, sMk, seqD, cLenv, cIxv, cSlv, cIx, ixD, cSl, slD, tE, tV, tNot, truD, esCons, bCons, tCons, tsCons, pOne, iIt, iRng, iEnu, tupOf, itD, rangeD, sAsg, sAsgT, sSetix, sApp, sExt, sExpr, sRet, sRetV, sIf, rdV, rdR, ownAt, putO, put1, ioB_no, ioB_imm, ioB_own, ioB_gs, putT, putR, fz, Res.d, O.d, Slot.o,
  List.getElem?_cons_zero, List.getElem?_cons_succ, List.set_cons_zero, List.set_cons_succ, if_true, if_false, ite_true, ite_false, Bool.false_eq_true, reduceIte, *])
/-! ### what a feeder told goes through bytes -/
theorem nb2 {m : Nat} (h : m < 16384) : (nb m).length ≤ 2 := by
  by_cases h1 : m ≤ 127
  · rw [nb_small h1]
    simp
  · rw [nb_big h1, List.length_cons, nb_small (show m / 128 ≤ 127 by omega)]
    simp
theorem encs_L : ∀ {l : List Int}, isB l → (encs (L l)).length ≤ 3 * l.length
  | [], _ => by
    show (encs []).length ≤ _
    rw [encs]
    exact Nat.zero_le _
  | b :: l, h => by
    show (encs (.int b :: L l)).length ≤ _
    have hb := h b List.mem_cons_self
    have ih := encs_L (l := l) fun x hx => h x (List.mem_cons_of_mem _ hx)
    have hz : zig b < 16384 := by
      unfold zig
      rw [if_pos hb.1]
      omega
    have := nb2 hz
    rw [encs, List.length_append, enc, List.length_cons, List.length_cons]
    omega
theorem pl_L (n : Nat) {l : List Int} (h : isB l) : Pl (n + 1) (.tuple (L l)) := by
  refine .tup n _ fun x hx => ?_
  obtain ⟨b, hb, rfl⟩ := L_mem.mp hx
  have := h b hb
  exact .int n b (by omega) (by omega)
def Sta.ok : Sta → Prop
  | .blk n => n ≤ 1000
  | _ => True
theorem word_sg (w : Str) (h : w.cps.toList.all (fun c => decide (c ∈ SG)) = true) : ∀ c ∈ w.cps.toList, c ∈ SG := fun c hc => of_decide_eq_true (List.all_eq_true.mp h c hc)
theorem enc_str_len (s : Str) (h : s.length ≤ 100) : (enc (.str s)).length = 2 + s.length := by
  rw [enc, List.length_cons, List.length_append, List.length_map, slen, nb_small (by omega), List.length_singleton]
  omega
theorem enc_tup_len (xs : List D) (h : xs.length ≤ 100) : (enc (.tuple xs)).length = 2 + (encs xs).length := by
  rw [enc, List.length_cons, List.length_append, nb_small (by omega), List.length_singleton]
  omega
theorem encs_len : ∀ xs : List D, (encs xs).length = (xs.map fun x => (enc x).length).sum
  | [] => by rw [encs]; rfl
  | x :: xs => by rw [encs, List.length_append, encs_len xs, List.map_cons, List.sum_cons]
theorem pl_st (s : Sta) (h : s.ok) : Pl 1 s.d ∧ (enc s.d).length ≤ 20 := by
  have w1 := word_sg "more" (by decide +kernel)
  have w2 := word_sg "whole" (by decide +kernel)
  have w3 := word_sg "block" (by decide +kernel)
  have l1 : ("more" : Str).length = 4 := by decide +kernel
  have l2 : ("whole" : Str).length = 5 := by decide +kernel
  have l3 : ("block" : Str).length = 5 := by decide +kernel
  cases s with
  | more =>
    refine ⟨.tup 0 _ fun x hx => ?_, ?_⟩
    · rw [List.mem_singleton] at hx
      rw [hx]
      exact .str 0 _ w1
    · show (enc (.tuple [.str "more"])).length ≤ 20
      have := enc_str_len "more" (by rw [l1]; decide)
      rw [enc_tup_len _ (by decide), encs_len]
      simp only [List.map_cons, List.map_nil, List.sum_cons, List.sum_nil]
      omega
  | whole =>
    refine ⟨.tup 0 _ fun x hx => ?_, ?_⟩
    · rw [List.mem_singleton] at hx
      rw [hx]
      exact .str 0 _ w2
    · show (enc (.tuple [.str "whole"])).length ≤ 20
      have := enc_str_len "whole" (by rw [l2]; decide)
      rw [enc_tup_len _ (by decide), encs_len]
      simp only [List.map_cons, List.map_nil, List.sum_cons, List.sum_nil]
      omega
  | blk n =>
    have h : n ≤ 1000 := h
    refine ⟨.tup 0 _ fun x hx => ?_, ?_⟩
    · simp only [List.mem_cons, List.not_mem_nil, or_false] at hx
      rcases hx with rfl | rfl
      · exact .str 0 _ w3
      · exact .int 0 _ (by omega) (by omega)
    · show (enc (.tuple [.str "block", .int (n : Int)])).length ≤ 20
      have hz : zig (n : Int) < 16384 := by
        unfold zig
        rw [if_pos (by omega)]
        omega
      have h2 := nb2 hz
      have := enc_str_len "block" (by rw [l3]; decide)
      have e0 : (enc (.int (n : Int))).length = 1 + (nb (zig (n : Int))).length := by rw [enc, List.length_cons, Nat.add_comm]
      rw [enc_tup_len _ (by show 2 ≤ 100; decide), encs_len]
      simp only [List.map_cons, List.map_nil, List.sum_cons, List.sum_nil]
      omega
theorem pl_kept (s : Sta) (cn : Option Nat) (tk rs : List Int) (hs : s.ok) (hc : ∀ c, cn = some c → c ≤ 1000) (h1 : isB tk) (h2 : isB rs) (z1 : tk.length ≤ 700) (z2 : rs.length ≤ 700) : Pl 2 (keptD s cn tk rs) ∧ (enc (keptD s cn tk rs)).length ≤ 5000 := by
  have w1 := word_sg "feeder" (by decide +kernel)
  have l1 : ("feeder" : Str).length = 6 := by decide +kernel
  have hst := pl_st s hs
  have hci : -100 ≤ cnI cn ∧ cnI cn ≤ 1000 := by
    cases cn with
    | none => decide
    | some c =>
      have := hc c rfl
      show (-100 : Int) ≤ (c : Int) ∧ (c : Int) ≤ 1000
      omega
  have up : ∀ {n : Nat} {d : D}, Pl n d → ∀ m, n ≤ m → Pl m d := by
    intro n
    induction n with
    | zero =>
      intro d h m _
      cases h with
      | int _ i a b => exact .int m i a b
      | str _ w a => exact .str m w a
    | succ n ih =>
      intro d h m hm
      cases h with
      | int _ i a b => exact .int m i a b
      | str _ w a => exact .str m w a
      | tup _ xs a =>
        obtain ⟨m', rfl⟩ : ∃ m', m = m' + 1 := ⟨m - 1, by omega⟩
        exact .tup m' xs fun x hx => ih (a x hx) m' (by omega)
  refine ⟨.tup 1 _ fun x hx => ?_, ?_⟩
  · simp only [List.mem_cons, List.not_mem_nil, or_false] at hx
    rcases hx with rfl | rfl | rfl | rfl | rfl
    · exact .str 1 _ w1
    · exact hst.1
    · exact .int 1 _ (by omega) (by omega)
    · exact pl_L 0 h1
    · exact pl_L 0 h2
  · have e1 := encs_L h1
    have e2 := encs_L h2
    have hz : zig (cnI cn) < 16384 := by
      unfold zig
      split <;> omega
    have n0 := nb2 hz
    have n1 := nb2 (show (L tk).length < 16384 by rw [L_len]; omega)
    have n2 := nb2 (show (L rs).length < 16384 by rw [L_len]; omega)
    have n3 := nb2 (show ("feeder" : Str).length < 16384 by rw [l1]; decide)
    have n4 := nb2 (show [PyData.str "feeder", s.d, .int (cnI cn), .tuple (L tk), .tuple (L rs)].length < 16384 by simp)
    have e3 := enc_str_len "feeder" (by rw [l1]; decide)
    have e4 : (enc (.int (cnI cn))).length ≤ 3 := by
      rw [enc, List.length_cons]
      omega
    have e5 : (enc (.tuple (L tk))).length ≤ 2103 := by
      rw [enc, List.length_cons, List.length_append]
      omega
    have e6 : (enc (.tuple (L rs))).length ≤ 2103 := by
      rw [enc, List.length_cons, List.length_append]
      omega
    have hst2 := hst.2
    unfold keptD
    rw [enc_tup_len _ (by show 5 ≤ 100; decide), encs_len]
    simp only [List.map_cons, List.map_nil, List.sum_cons, List.sum_nil]
    omega
theorem datas_isB {w : List Int} (h : isB w) (m : Nat) : isB (datas w m) := fun x hx => by
  unfold datas at hx
  obtain ⟨i, _, hx⟩ := List.mem_flatMap.mp hx
  exact piece_isB h i x (List.mem_of_mem_drop (List.mem_of_mem_take hx))
end K48
namespace K48
open PySem PySem.Spec PyProof.Rows Z
local macro_rules | `(tactic| walk_at "z") => `(tactic| simp (disch := first | omega | assumption | decide | (apply IsP.l; assumption) | exact isl_ins) only [cFld, insAt, cNew, cMeth, sSetf, FS_state, FS_count, FS_taken, FS_rest, FS_len, FS_m1, FS_m2, FS_m3, FS_m4, put_state, put_count, put_taken, put_rest, sh_st, sh_mr, sh_wh, eqv_more, eqv_whole, eq_self, IFP, IFdiv, IFpow, IFT, IFtt, sh_int, sh_bool, sh_none, sh_L, Bool.and_self, Bool.true_and, Bool.and_true, flatD, List.all_cons, List.all_nil, List.length_cons, List.length_nil, decide_true, decide_false, Bool.not_false, Bool.not_true, eqv_int, eqv_L, evSs, evS, evE, evEs, evI, mE, msCons, msNil, Es.isNil, cV, cC, cGl, vOf, cOp, opD, addD, mulD, Z.intD, mulOk_l, mulOk_r, cNeg, cCmp, cmpD, ordD, cNot, cIte, cLst, cTup, cCall, cCallIO, cBi, biD, lenD, listD, tupleD, int1D, int2D, allD, sumD, intsD, boolsD, strD, cIsi, isiD, cPopv, cMe, meD, cRev, revD, sMk, seqD, cLenv, cIxv, cSlv, cIx, ixD, cSl, slD, tE, tV, tNot, truD, esCons, bCons, tCons, tsCons, pOne, iIt, iRng, iEnu, tupOf, itD, rangeD, sAsg, sAsgT, sSetix, sApp, sExt, sExpr, sRet, sRetV, sIf, rdV, rdR, ownAt, putO, put1, ioB_no, ioB_imm, ioB_own, ioB_gs, putT, putR, fz, Res.d, O.d, Slot.o,
  List.getElem?_cons_zero, List.getElem?_cons_succ, List.set_cons_zero, List.set_cons_succ, if_true, if_false, ite_true, ite_false, Bool.false_eq_true, reduceIte])
local macro_rules | `(tactic| walk_at "zs") => `(tactic| simp (disch := first | omega | assumption | decide | (apply IsP.l; assumption) | exact isl_ins) only [cFld, insAt, cNew, cMeth, sSetf, FS_state, FS_count, FS_taken, FS_rest, FS_len, FS_m1, FS_m2, FS_m3, FS_m4, put_state, put_count, put_taken, put_rest, sh_st, sh_mr, sh_wh, eqv_more, eqv_whole, eq_self, IFP, IFdiv, IFpow, IFT, IFtt, sh_int, sh_bool, sh_none, sh_L, Bool.and_self, Bool.true_and, Bool.and_true, flatD, List.all_cons, List.all_nil, List.length_cons, List.length_nil, decide_true, decide_false, Bool.not_false, Bool.not_true, eqv_int, eqv_L, evSs, evS, evE, evEs, evI, mE, msCons, msNil, Es.isNil, cV, cC, cGl, vOf, cOp, opD, addD, mulD, Z.intD, mulOk_l, mulOk_r, cNeg, cCmp, cmpD, ordD, cNot, cIte, cLst, cTup, cCall, cCallIO, cBi, biD, lenD, listD, tupleD, int1D, int2D, allD, sumD, intsD, boolsD, strD, cIsi, isiD, cPopv, cMe, meD, cRev, revD, sMk, seqD, cLenv, cIxv, cSlv, cIx, ixD, cSl, slD, tE, tV, tNot, truD, esCons, bCons, tCons, tsCons, pOne, iIt, iRng, iEnu, tupOf, itD, rangeD, sAsg, sAsgT, sSetix, sApp, sExt, sExpr, sRet, sRetV, sIf, rdV, rdR, ownAt, putO, put1, ioB_no, ioB_imm, ioB_own, ioB_gs, putT, putR, fz, Res.d, O.d, Slot.o,
  List.getElem?_cons_zero, List.getElem?_cons_succ, List.set_cons_zero, List.set_cons_succ, if_true, if_false, ite_true, ite_false, Bool.false_eq_true, reduceIte, *])
/-! ### the law's loop: a turn */ -/
abbrev eL (S : D) (o : O) (ts w : List Int) (wy pa : Int) (F : O) (n : Nat) (x8 x13 : Option D) (y14 : Slot) (x15 : Option D) : Z.Env := [.imm S, .own o, .imm (.list (L ts)), .own (.lst (L w)), .imm (.int wy), .imm (.int pa), .own F, .imm (.int (n : Nat)), gs x8, .no, .no, .no, .no, gs x13, y14, gs x15]
abbrev Lc : Ss := .cons (.ife (.not (.call 12 (.cons (.meth 24 6 "Feeder" "feed" (.cons (.bi .list (.cons (.v 14) .nil)) .nil)) (.cons (.call 16 (.cons (.slv 3 .nil (.cons (.v 7) .nil)) .nil)) .nil)))) (.cons (.ret (.bl false)) .nil) .nil) .nil
abbrev Lb : Ss := .cons (.ife (.cmp .eq (.callIO 11 1 (.cons (.int 3) .nil)) (.int 0)) (.cons (.asg 15 (.meth 26 6 "Feeder" "told" .nil)) (.cons (.ife (.cmp .isn (.call 13 (.cons (.v 15) .nil)) (.bl true)) (.cons (.ret (.bl false)) .nil) .nil) (.cons (.asg 6 (.call 14 (.cons (.ix (.call 17 (.cons (.call 19 (.cons (.v 15) .nil)) .nil)) (.int 1)) .nil))) .nil))) .nil) Lc
theorem good_st (s : Sta) : good 1 s.d = true := by
  have h1 : PyData.strOk "more" = true := by decide +kernel
  have h2 : PyData.strOk "whole" = true := by decide +kernel
  have h3 : PyData.strOk "block" = true := by decide +kernel
  cases s <;> simp [Sta.d, good, h1, h2, h3]
theorem same_st (s : Sta) : run tb.T 19 i_law_same none [s.d, s.d] = some (.imm (.bool true), none) := f_same 1 s.d (good_st s) 17
theorem Lc_ok {S : D} {o : O} {ts w p : List Int} {wy pa : Int} {s s' : Sta} {cn cn' : Option Nat} {tk rs tk' rs' : List Int} {n' : Nat} {x8 x13 x15 : Option D} {Φ : Fl → Z.Env → Prop}
    (hf : run tb.T 19 24 (some (FF s cn tk rs)) [.list (L p)] = some (.imm s'.d, some (FF s' cn' tk' rs')))
    (hd : run tb.T 19 16 none [.list (L (w.take n'))] = some (.imm s'.d, none))
    (hk : Φ .next (eL S o ts w wy pa (FF s' cn' tk' rs') n' x8 x13 (.imm (.list (L p))) x15)) :
    W (evSs (run tb.T 19) Lc (eL S o ts w wy pa (FF s cn tk rs) n' x8 x13 (.own (.lst (L p))) x15)) Φ := by
  have hs := szl
  have hsame := same_st s'
  have hcut := cut_to w n'
  refine W_cons (W_if (k := false) (env' := eL S o ts w wy pa (FF s' cn' tk' rs') n' x8 x13 (.imm (.list (L p))) x15) ?_ (fun z => nomatch z) (fun _ => W_nil (W_nil hk)))
  clear hk
  unfold eL
  walk_at "z"
  rw [hf]
  walk_at "z"
  rw [hcut, hd]
  walk_at "z"
  rw [hsame]
  walk_at "z"
theorem Lb_ok {S : D} {o : O} {ts w p : List Int} {wy pa : Int} {s : Sta} {cn : Option Nat} {tk rs : List Int} {n' : Nat} {x8 x13 x15 : Option D} {Φ : Fl → Z.Env → Prop} (ho : IsP o)
    (hs : s.ok) (hc : ∀ c, cn = some c → c ≤ 1000) (h1 : isB tk) (h2 : isB rs) (z1 : tk.length ≤ 700) (z2 : rs.length ≤ 700)
    (hk : ∀ o x15, IsP o → W (evSs (run tb.T 19) Lc (eL S o ts w wy pa (FF s cn tk rs) n' x8 x13 (.own (.lst (L p))) x15)) Φ) :
    W (evSs (run tb.T 19) Lb (eL S o ts w wy pa (FF s cn tk rs) n' x8 x13 (.own (.lst (L p))) x15)) Φ := by
  have hsz := szl
  obtain ⟨v, o2, hd, ho2, hv1, hv2⟩ := f_draw 16 o 3 ho (by decide)
  obtain ⟨hp1, hp2⟩ := pl_kept s cn tk rs hs hc h1 h2 z1 z2
  have g1 := f_told 18 s cn tk rs
  have g2 := f_is_plain 2 _ hp1 (by decide) hp2 18
  have g3 := f_bytes_of 2 _ hp1 hp2 17
  have g4 := f_value_of 15 2 _ hp1 (by decide) hp2
  have g5 := f_feeder_of 17 s cn tk rs
  have a1 := at2_1 (.str "value") (keptD s cn tk rs)
  generalize enc (keptD s cn tk rs) = en at g3 g4
  generalize keptD s cn tk rs = kd at *
  refine W_cons (W_if (k := decide (v = 0)) (env' := eL S o2 ts w wy pa (FF s cn tk rs) n' x8 x13 (.own (.lst (L p))) x15) ?_ (fun _ => ?_) (fun _ => W_nil (hk o2 x15 ho2)))
  · clear hk
    unfold eL
    walk_at "z"
    rw [hd]
    walk_at "z"
  refine W_next (env' := eL S o2 ts w wy pa (FF s cn tk rs) n' x8 x13 (.own (.lst (L p))) (some kd)) ?_ ?_
  · clear hk
    unfold eL
    walk_at "z"
    rw [g1]
    walk_at "z"
    rfl
  refine W_cons (W_if (k := false) (env' := eL S o2 ts w wy pa (FF s cn tk rs) n' x8 x13 (.own (.lst (L p))) (some kd)) ?_ (fun z => nomatch z) (fun _ => W_nil ?_))
  · clear hk
    have d : decide (true = true) = true := rfl
    unfold eL
    show (evE (run tb.T 19) (.cmp .isn (.call 13 (.cons (.v 15) .nil)) (.bl true))).t [.imm S, .own o2, .imm (.list (L ts)), .own (.lst (L w)), .imm (.int wy), .imm (.int pa), .own (FF s cn tk rs), .imm (.int (n' : Nat)), gs x8, .no, .no, .no, .no, gs x13, .own (.lst (L p)), .imm kd] = _
    walk_at "z"
    rw [g2]
    walk_at "z"
    rfl
  refine W_next (env' := eL S o2 ts w wy pa (FF s cn tk rs) n' x8 x13 (.own (.lst (L p))) (some kd)) ?_ (W_nil (hk o2 (some kd) ho2))
  clear hk
  unfold eL
  show evS (run tb.T 19) (.asg 6 (.call 14 (.cons (.ix (.call 17 (.cons (.call 19 (.cons (.v 15) .nil)) .nil)) (.int 1)) .nil))) [.imm S, .own o2, .imm (.list (L ts)), .own (.lst (L w)), .imm (.int wy), .imm (.int pa), .own (FF s cn tk rs), .imm (.int (n' : Nat)), gs x8, .no, .no, .no, .no, gs x13, .own (.lst (L p)), .imm kd] = _
  walk_at "z"
  rw [g3]
  walk_at "z"
  rw [g4]
  walk_at "z"
  rw [a1]
  walk_at "z"
  rw [g5]
  walk_at "z"
  rfl
abbrev FNs (bs w : List Int) (m n : Nat) : O := FF (stJ (cntN bs.length) m (n / 64)) (cnJ (cntN bs.length) m (n / 64)) (datas w (min (n / 64) m)) (rsN (cntN bs.length) m w n)
theorem l1_ok {S : D} {o : O} {ts w bs : List Int} {wy pa : Int} {m n : Nat} {x8 x13 x14 x15 : Option D} {Φ : Fl → Z.Env → Prop} (G : Gd bs w m) (hb : bs.length ≤ 200) (hw : w.length ≤ 700) (ho : IsP o) (hn : n ≤ w.length)
    (hk : ∀ o n' x13 x14 x15, IsP o → n' ≤ w.length → Φ .next (eL S o ts w wy pa (FNs bs w m n') n' x8 x13 (gs x14) x15)) :
    W (evSs (run tb.T 19) l_law_1 (eL S o ts w wy pa (FNs bs w m n) n x8 x13 (gs x14) x15)) Φ := by
  have hs := szl
  have hL := L_len w
  have hc4 : cntN bs.length ≤ 4 := by unfold cntN; omega
  unfold l_law_1
  refine W_cons (W_if (k := decide (n < w.length)) (env' := eL S o ts w wy pa (FNs bs w m n) n x8 x13 (gs x14) x15) ?_ (fun hz => ?_) (fun _ => W_nil (W_nil (hk o n x13 x14 x15 ho hn))))
  · have e : decide ((n : Int) < ((L w).length : Int)) = decide (n < w.length) := decide_eq_decide.mpr (by omega)
    clear hk
    generalize FNs bs w m n = F
    unfold eL
    walk_at "z"
    rw [e]
  have hlt := of_decide_eq_true hz
  obtain ⟨o1, q1, ho1⟩ := f_next 16 o ho
  obtain ⟨d, o2, q2, ho2, hd2⟩ := f_pick 15 o1 [.int 2, .int 40, .int 200] ho1 (by decide)
  obtain ⟨lim, rfl, hlim⟩ : ∃ lim : Int, d = .int lim ∧ 0 < lim ∧ lim < 1073741824 := by
    simp only [List.mem_cons, List.not_mem_nil, or_false] at hd2
    rcases hd2 with rfl | rfl | rfl
    · exact ⟨2, rfl, by decide⟩
    · exact ⟨40, rfl, by decide⟩
    · exact ⟨200, rfl, by decide⟩
  obtain ⟨v, o3, q3, ho3, hv1, hv2⟩ := f_draw 16 o2 lim ho2 hlim
  obtain ⟨sz, rfl⟩ : ∃ sz : Nat, v = (sz : Int) := ⟨v.toNat, by omega⟩
  obtain ⟨n', hn', hle, hp⟩ : ∃ n', n ≤ n' ∧ n' ≤ w.length ∧ (w.drop n).take sz = (w.drop n).take (n' - n) ∧ n' = n + ((w.drop n).take sz).length := by
    refine ⟨n + ((w.drop n).take sz).length, by omega, by rw [List.length_take, List.length_drop]; omega, ?_, rfl⟩
    rw [show n + ((w.drop n).take sz).length - n = ((w.drop n).take sz).length by omega, List.length_take]
    by_cases h : sz ≤ (w.drop n).length
    · rw [Nat.min_eq_left h]
    · rw [Nat.min_eq_right (by omega), List.take_of_length_le (by omega), List.take_of_length_le (Nat.le_refl _)]
  obtain ⟨hp, hn2⟩ := hp
  have hfe := f_feed G 15 n n' hn' hle (by omega)
  have hdu := f_due G 14 n' hle
  rw [← hp] at hfe
  refine W_next (env' := eL S o1 ts w wy pa (FNs bs w m n) n x8 x13 (gs x14) x15) ?_ ?_
  · clear hk hfe
    generalize FNs bs w m n = F
    unfold eL
    walk_at "z"
    rw [q1]
  refine W_next (env' := eL S o3 ts w wy pa (FNs bs w m n) n x8 (some (.int (sz : Nat))) (gs x14) x15) ?_ ?_
  · clear hk hfe
    generalize FNs bs w m n = F
    unfold eL
    walk_at "z"
    rw [q2]
    walk_at "z"
    rw [q3]
    walk_at "z"
    rfl
  refine W_next (env' := eL S o3 ts w wy pa (FNs bs w m n) n x8 (some (.int (sz : Nat))) (.own (.lst (L ((w.drop n).take sz)))) x15) ?_ ?_
  · have e1 := cut_mid w n (n + sz) (by omega)
    rw [show n + sz - n = sz by omega, show ((n + sz : Nat) : Int) = (n : Int) + (sz : Int) by omega] at e1
    clear hk hfe
    generalize FNs bs w m n = F
    unfold eL
    show evS (run tb.T 19) (.asg 14 (.slv 3 (.cons (.v 7) .nil) (.cons (.op .add (.v 7) (.v 13)) .nil))) [.imm S, .own o3, .imm (.list (L ts)), .own (.lst (L w)), .imm (.int wy), .imm (.int pa), .own F, .imm (.int (n : Nat)), gs x8, .no, .no, .no, .no, .imm (.int (sz : Nat)), gs x14, gs x15] = _
    walk_at "z"
    rw [e1]
    rfl
  refine W_next (env' := eL S o3 ts w wy pa (FNs bs w m n) n' x8 (some (.int (sz : Nat))) (.own (.lst (L ((w.drop n).take sz)))) x15) ?_ ?_
  · have hL2 := L_len ((w.drop n).take sz)
    have e : (n : Int) + ((L ((w.drop n).take sz)).length : Int) = (n' : Int) := by rw [hL2]; omega
    clear hk hfe
    generalize L ((w.drop n).take sz) = pl at *
    generalize FNs bs w m n = F
    unfold eL
    walk_at "z"
    rw [e]
  have hle2 := G.le
  refine Lb_ok ho3 ?_ ?_ (datas_isB G.isb _) ?_ ?_ ?_ fun o x15 ho => ?_
  · unfold stJ
    split
    · trivial
    · split
      · trivial
      · show m + 1 ≤ 1000
        omega
  · intro c hcc
    unfold cnJ at hcc
    split at hcc
    · cases hcc
    · cases hcc
      omega
  · unfold rsN
    split
    · exact isB_drop (isB_take G.isb _) _
    · exact fun x hx => nomatch hx
  · rw [datas_len _ fun i hi => G.R i (by omega)]
    omega
  · unfold rsN
    split
    · rw [List.length_drop, List.length_take]
      omega
    · exact Nat.zero_le _
  · exact Lc_ok hfe hdu (W_nil (hk o n' _ (some _) x15 ho hle))
end K48
namespace K48
open PySem PySem.Spec PyProof.Rows Z
local macro_rules | `(tactic| walk_at "z") => `(tactic| simp (disch := first | omega | assumption | decide | (apply IsP.l; assumption)) only [IFP, IFdiv, IFpow, IFT, IFtt, sh_int, sh_bool, sh_none, sh_L, Bool.and_self, Bool.true_and, Bool.and_true, flatD, List.all_cons, List.all_nil, List.length_cons, List.length_nil, decide_true, decide_false, Bool.not_false, Bool.not_true, eqv_int, eqv_L, evSs, evS, evE, evEs, evI, mE, msCons, msNil, Es.isNil, cV, cC, cGl, vOf, cOp, opD, addD, mulD, Z.intD, mulOk_l, mulOk_r, cNeg, cCmp, cmpD, ordD, cNot, cIte, cLst, cTup, cCall, cCallIO, cBi, biD, lenD, listD, tupleD, int1D, int2D, allD, sumD, intsD, boolsD, strD, cIsi, isiD, cPopv, cMe, meD, cRev, revD, sMk, seqD, cLenv, cIxv, cSlv, cIx, ixD, cSl, slD, tE, tV, tNot, truD, esCons, bCons, tCons, tsCons, pOne, iIt, iRng, iEnu, tupOf, itD, rangeD, sAsg, sAsgT, sSetix, sApp, sExt, sExpr, sRet, sRetV, sIf, rdV, rdR, ownAt, putO, put1, ioB_no, ioB_imm, ioB_own, ioB_gs, putT, putR, fz, Res.d, O.d, Slot.o,
  List.getElem?_cons_zero, List.getElem?_cons_succ, List.set_cons_zero, List.set_cons_succ, if_true, if_false, ite_true, ite_false, Bool.false_eq_true, reduceIte])
local macro_rules | `(tactic| walk_at "zs") => `(tactic| simp (disch := first | omega | assumption | decide | (apply IsP.l; assumption)) only [IFP, IFdiv, IFpow, IFT, IFtt, sh_int, sh_bool, sh_none, sh_L, Bool.and_self, Bool.true_and, Bool.and_true, flatD, List.all_cons, List.all_nil, List.length_cons, List.length_nil, decide_true, decide_false, Bool.not_false, Bool.not_true, eqv_int, eqv_L, evSs, evS, evE, evEs, evI, mE, msCons, msNil, Es.isNil, cV, cC, cGl, vOf, cOp, opD, addD, mulD, Z.intD, mulOk_l, mulOk_r, cNeg, cCmp, cmpD, ordD, cNot, cIte, cLst, cTup, cCall, cCallIO, cBi, biD, lenD, listD, tupleD, int1D, int2D, allD, sumD, intsD, boolsD, strD, cIsi, isiD, cPopv, cMe, meD, cRev, revD, sMk, seqD, cLenv, cIxv, cSlv, cIx, ixD, cSl, slD, tE, tV, tNot, truD, esCons, bCons, tCons, tsCons, pOne, iIt, iRng, iEnu, tupOf, itD, rangeD, sAsg, sAsgT, sSetix, sApp, sExt, sExpr, sRet, sRetV, sIf, rdV, rdR, ownAt, putO, put1, ioB_no, ioB_imm, ioB_own, ioB_gs, putT, putR, fz, Res.d, O.d, Slot.o,
  List.getElem?_cons_zero, List.getElem?_cons_succ, List.set_cons_zero, List.set_cons_succ, if_true, if_false, ite_true, ite_false, Bool.false_eq_true, reduceIte, *])
/-! ### behind the loop */ -/
structure Wd (bs w : List Int) (m : Nat) (wy : Int) : Prop where
  G : Gd bs w m
  ex : wy ≠ 2 → m = cntN bs.length → w.length ≤ 64 * cntN bs.length
  x3 : ∃ m', Gd bs (w ++ [1, 2, 3]) m' ∧ (w.length / 64 ≤ m ∧ w.length / 64 < cntN bs.length → w.length / 64 ≤ m') ∧ (¬(w.length / 64 ≤ m ∧ w.length / 64 < cntN bs.length) → m' = m)
theorem fn_ext {bs w t : List Int} {m m' : Nat} (h1 : w.length / 64 ≤ m ∧ w.length / 64 < cntN bs.length → w.length / 64 ≤ m') (h2 : ¬(w.length / 64 ≤ m ∧ w.length / 64 < cntN bs.length) → m' = m) : FNs bs w m w.length = FNs bs (w ++ t) m' w.length := by
  have ht : (w ++ t).take w.length = w := List.take_left' rfl
  have hd : ∀ q, 64 * q ≤ w.length → datas (w ++ t) q = datas w q := fun q hq => by
    have := datas_cut (w := w ++ t) q hq
    rw [ht] at this
    exact this.symm
  by_cases h : w.length / 64 ≤ m ∧ w.length / 64 < cntN bs.length
  · have h' := h1 h
    have h'' : w.length / 64 ≤ m' ∧ w.length / 64 < cntN bs.length := ⟨h', h.2⟩
    have e1 : min (w.length / 64) m = w.length / 64 := Nat.min_eq_left h.1
    have e2 : min (w.length / 64) m' = w.length / 64 := Nat.min_eq_left h'
    unfold FNs cnJ rsN
    rw [stJ_more h, stJ_more h'', e1, e2, hd _ (by omega), if_pos h, if_pos h'', ht, List.take_of_length_le (Nat.le_refl _)]
  · have e := h2 h
    subst e
    unfold FNs rsN
    rw [hd _ (by omega), if_neg h, if_neg h]
theorem f_data_any {bs w : List Int} {m : Nat} (G : Gd bs w m) (k : Nat) : ∃ x y, run tb.T (k + 4) i_data_of none [.list (L w)] = some (.imm (.tuple [x, y]), none) ∧ (m = cntN bs.length → w.length = 64 * cntN bs.length → y = .list (L bs)) := by
  have hc : cntN bs.length ≤ 100 := cnt_small G.lb
  by_cases hm : w.length / 64 ≤ m ∧ w.length / 64 < cntN bs.length
  · have hsh : isBlk (piece w (w.length / 64)) (((w.length / 64 : Nat) : Int) + 1) (if w.length / 64 = 0 then none else some ((cntN bs.length : Nat) : Int)) = false := isBlk_short (by
      unfold piece
      rw [List.length_take, List.length_drop]
      omega)
    exact ⟨_, _, data_block k w (cntN bs.length) (w.length / 64) G.isb ⟨hm.2, hc⟩ (fun i hi => G.R i (by omega)) hsh, fun _ h => absurd hm (by omega)⟩
  · by_cases hmc : m = cntN bs.length
    · have hR := G.R
      have hd := G.hd hmc
      rw [hmc] at hR hd
      have h := data_some k w bs G.isb G.lb hR hd
      by_cases hl : 64 * cntN bs.length < w.length
      · rw [if_pos hl] at h
        exact ⟨_, _, h, fun _ z => absurd z (by omega)⟩
      · rw [if_neg hl] at h
        exact ⟨_, _, h, fun _ _ => rfl⟩
    · have hle := G.le
      exact ⟨_, _, data_block k w (cntN bs.length) m G.isb ⟨by omega, hc⟩ G.R (G.bad.resolve_left hmc), fun z => absurd z hmc⟩
theorem fn_zero (bs w : List Int) (m : Nat) : FNs bs w m 0 = FF .more none [] [] := by
  have hc1 : 1 ≤ cntN bs.length := (cnt_ge bs.length).2.2
  have e : min (0 / 64) m = 0 := Nat.zero_min m
  have h0 : 0 / 64 ≤ m ∧ 0 / 64 < cntN bs.length := ⟨Nat.zero_le _, by omega⟩
  unfold FNs cnJ rsN
  rw [stJ_more h0, e, if_pos rfl, if_pos h0]
  rfl
/-- what data tells -/
theorem f_dataN {bs w : List Int} {m : Nat} (G : Gd bs w m) (k : Nat) : ∃ r : Res, run tb.T (k + 2) i_Feeder_data (some (FNs bs w m w.length)) [] = some (r, some (FNs bs w m w.length)) ∧ r.d = if (stJ (cntN bs.length) m (w.length / 64)).isW then .list (L bs) else .none := by
  have hle := G.le
  cases hw : (stJ (cntN bs.length) m (w.length / 64)).isW with
  | false => exact ⟨_, f_data_n (k + 1) _ _ _ _ hw, rfl⟩
  | true =>
    unfold stJ at hw
    split at hw
    · cases hw
    · rename_i hm
      split at hw
      · rename_i hmc
        have e : min (w.length / 64) m = m := by omega
        have hd := G.hd hmc
        have hst : stJ (cntN bs.length) m (w.length / 64) = .whole := by
          unfold stJ
          rw [if_neg hm, if_pos hmc]
        refine ⟨.own (.lst (L bs)), ?_, rfl⟩
        unfold FNs
        rw [hst, e, hd]
        exact f_data_w k bs _ _ G.lb
      · cases hw
theorem good_L (n : Nat) {l : List Int} (h : l.length < 1000000) : good (n + 1) (.list (L l)) = true := by
  unfold good
  rw [Bool.and_eq_true, List.all_eq_true]
  refine ⟨decide_eq_true (by rw [L_len]; exact h), fun d hd => ?_⟩
  obtain ⟨m, _, rfl⟩ := L_mem.mp hd
  unfold good
  rfl
theorem bop3 {Γ : Fn} {A B C : Z.E} {env env1 env2 env3 : Z.Env} (h1 : (evE Γ A).e env = some (.imm (.bool true), env1)) (h2 : (evE Γ B).e env1 = some (.imm (.bool true), env2)) (h3 : (evE Γ C).e env2 = some (.imm (.bool true), env3)) :
    (evE Γ (.bop true (.cons A (.cons B (.cons C .nil))))).e env = some (.imm (.bool true), env3) := by
  simp only [evE, evEs, msCons, msNil, Es.isNil, if_true, Bool.false_eq_true, if_false]
  unfold bCons
  rw [h1]
  show (match fz ((evE Γ B).e env1) with | some (.bool b, env) => if b = true then (evE Γ C).e env else some (.imm (.bool b), env) | _ => none) = _
  rw [h2]
  show (evE Γ C).e env2 = _
  exact h3
abbrev okL : Fl → Z.Env → Prop := fun fl e => match fl with
  | .ret r' => r' = .imm (.bool true) ∧ ioOf e = none
  | .next => (.imm (.bool true) : Res) = .imm .none ∧ ioOf e = none
  | _ => False
end K48
namespace K48
open PySem PySem.Spec PyProof.Rows Z
local macro_rules | `(tactic| walk_at "z") => `(tactic| simp (disch := first | omega | assumption | decide | (apply IsP.l; assumption) | exact isl_ins) only [cFld, insAt, cNew, cMeth, sSetf, FS_state, FS_count, FS_taken, FS_rest, FS_len, FS_m1, FS_m2, FS_m3, FS_m4, put_state, put_count, put_taken, put_rest, sh_st, sh_mr, sh_wh, eqv_more, eqv_whole, eq_self, IFP, IFdiv, IFpow, IFT, IFtt, sh_int, sh_bool, sh_none, sh_L, Bool.and_self, Bool.true_and, Bool.and_true, flatD, List.all_cons, List.all_nil, List.length_cons, List.length_nil, decide_true, decide_false, Bool.not_false, Bool.not_true, eqv_int, eqv_L, evSs, evS, evE, evEs, evI, mE, msCons, msNil, Es.isNil, cV, cC, cGl, vOf, cOp, opD, addD, mulD, Z.intD, mulOk_l, mulOk_r, cNeg, cCmp, cmpD, ordD, cNot, cIte, cLst, cTup, cCall, cCallIO, cBi, biD, lenD, listD, tupleD, int1D, int2D, allD, sumD, intsD, boolsD, strD, cIsi, isiD, cPopv, cMe, meD, cRev, revD, sMk, seqD, cLenv, cIxv, cSlv, cIx, ixD, cSl, slD, tE, tV, tNot, truD, esCons, bCons, tCons, tsCons, pOne, iIt, iRng, iEnu, tupOf, itD, rangeD, sAsg, sAsgT, sSetix, sApp, sExt, sExpr, sRet, sRetV, sIf, rdV, rdR, ownAt, putO, put1, ioB_no, ioB_imm, ioB_own, ioB_gs, putT, putR, fz, Res.d, O.d, Slot.o,
  List.getElem?_cons_zero, List.getElem?_cons_succ, List.set_cons_zero, List.set_cons_succ, if_true, if_false, ite_true, ite_false, Bool.false_eq_true, reduceIte])
local macro_rules | `(tactic| walk_at "zs") => `(tactic| simp (disch := first | omega | assumption | decide | (apply IsP.l; assumption) | exact isl_ins) only [cFld, insAt, cNew, cMeth, sSetf, FS_state, FS_count, FS_taken, FS_rest, FS_len, FS_m1, FS_m2, FS_m3, FS_m4, put_state, put_count, put_taken, put_rest, sh_st, sh_mr, sh_wh, eqv_more, eqv_whole, eq_self, IFP, IFdiv, IFpow, IFT, IFtt, sh_int, sh_bool, sh_none, sh_L, Bool.and_self, Bool.true_and, Bool.and_true, flatD, List.all_cons, List.all_nil, List.length_cons, List.length_nil, decide_true, decide_false, Bool.not_false, Bool.not_true, eqv_int, eqv_L, evSs, evS, evE, evEs, evI, mE, msCons, msNil, Es.isNil, cV, cC, cGl, vOf, cOp, opD, addD, mulD, Z.intD, mulOk_l, mulOk_r, cNeg, cCmp, cmpD, ordD, cNot, cIte, cLst, cTup, cCall, cCallIO, cBi, biD, lenD, listD, tupleD, int1D, int2D, allD, sumD, intsD, boolsD, strD, cIsi, isiD, cPopv, cMe, meD, cRev, revD, sMk, seqD, cLenv, cIxv, cSlv, cIx, ixD, cSl, slD, tE, tV, tNot, truD, esCons, bCons, tCons, tsCons, pOne, iIt, iRng, iEnu, tupOf, itD, rangeD, sAsg, sAsgT, sSetix, sApp, sExt, sExpr, sRet, sRetV, sIf, rdV, rdR, ownAt, putO, put1, ioB_no, ioB_imm, ioB_own, ioB_gs, putT, putR, fz, Res.d, O.d, Slot.o,
  List.getElem?_cons_zero, List.getElem?_cons_succ, List.set_cons_zero, List.set_cons_succ, if_true, if_false, ite_true, ite_false, Bool.false_eq_true, reduceIte, *])
/-! ### the law's last tests */ -/
abbrev E1 : Z.E := .call 12 (.cons (.meth 24 11 "Feeder" "feed" (.cons (.bi .list (.cons (.v 3) .nil)) .nil)) (.cons (.v 9) .nil))
abbrev E2 : Z.E := .call 12 (.cons (.meth 27 11 "Feeder" "data" .nil) (.cons (.meth 27 6 "Feeder" "data" .nil) .nil))
abbrev E3 : Z.E := .call 12 (.cons (.meth 24 11 "Feeder" "feed" (.cons (.lst (.cons (.int 1) (.cons (.int 2) (.cons (.int 3) .nil)))) .nil)) (.cons (.ite (.cmp .ne (.v 9) (.tup (.cons (.str "more") .nil))) (.v 9) (.call 16 (.cons (.op .add (.v 3) (.lst (.cons (.int 1) (.cons (.int 2) (.cons (.int 3) .nil))))) .nil))) .nil))
abbrev TL5 : Ss := .cons (.asg 11 (.new 23 "Feeder")) (.cons (.ret (.bop true (.cons E1 (.cons E2 (.cons E3 .nil))))) .nil)
abbrev TL4 : Ss := .cons (.ife (.not (.call 12 (.cons (.meth 27 6 "Feeder" "data" .nil) (.cons (.ite (.cmp .eq (.v 9) (.tup (.cons (.str "whole") .nil))) (.ixv 10 (.int 1)) .non) .nil)))) (.cons (.ret (.bl false)) .nil) .nil) TL5
abbrev TL3 : Ss := .cons (.asg 10 (.call 5 (.cons (.ite (.cmp .ne (.v 4) (.int 2)) (.v 3) (.call 2 (.cons (.v 2) .nil))) .nil))) TL4
abbrev TL2 : Ss := .cons (.ife (.cmp .lt (.v 7) (.lenv 3)) (.cons (.ret (.bl true)) .nil) .nil) TL3
abbrev TL1 : Ss := .cons (.asg 9 (.call 16 (.cons (.v 3) .nil))) TL2
abbrev eT (S : D) (o : O) (bs : List Int) (w : D) (wy pa : Int) (F : O) (n : Nat) (x8 x13 x14 x15 : Option D) (y9 y10 y11 : Slot) : Z.Env := [.imm S, .own o, .imm (.list (L bs)), .imm w, .imm (.int wy), .imm (.int pa), .own F, .imm (.int (n : Nat)), gs x8, y9, y10, y11, .no, gs x13, gs x14, gs x15]
section
variable {S : D} {o : O} {bs w : List Int} {wy pa : Int} {n : Nat} {x8 x13 x14 x15 : Option D}
theorem tl5 {s s1 s2 : Sta} {c1 c2 : Option Nat} {t1 r1 t2 r2 : List Int} {y10 : D} {r : Res} {dv : D} (hw : w.length ≤ 700)
    (f1 : run tb.T 19 24 (some (FF .more none [] [])) [.list (L w)] = some (.imm s.d, some (FF s1 c1 t1 r1)))
    (f2 : run tb.T 19 27 (some (FF s1 c1 t1 r1)) [] = some (r, some (FF s1 c1 t1 r1))) (f3 : r.d = dv) (f4 : run tb.T 19 12 none [dv, dv] = some (.imm (.bool true), none))
    (f5 : run tb.T 19 24 (some (FF s1 c1 t1 r1)) [.list [.int 1, .int 2, .int 3]] = some (.imm s2.d, some (FF s2 c2 t2 r2)))
    (f6 : s.isM = true → run tb.T 19 16 none [.list (L (w ++ [1, 2, 3]))] = some (.imm s2.d, none)) (f7 : s.isM = false → s2 = s) :
    W (evSs (run tb.T 19) TL5 (eT S o bs (.list (L w)) wy pa (FF s1 c1 t1 r1) n x8 x13 x14 x15 (.imm s.d) (.imm y10) .no)) okL := by
  have hs := szl
  have hL := L_len w
  have hi := f_new 18
  have g1 := same_st s
  have g2 := same_st s2
  refine W_next (env' := eT S o bs (.list (L w)) wy pa (FF s1 c1 t1 r1) n x8 x13 x14 x15 (.imm s.d) (.imm y10) (.own (FF .more none [] []))) ?_ ?_
  · walk_at "z"
    rw [hi]
    walk_at "z"
  refine W_ret (env' := eT S o bs (.list (L w)) wy pa (FF s1 c1 t1 r1) n x8 x13 x14 x15 (.imm s.d) (.imm y10) (.own (FF s2 c2 t2 r2))) (r := .imm (.bool true)) ?_ ⟨rfl, by simp only [ioOf, ioOf_gs]⟩
  show sRet (evE (run tb.T 19) (.bop true (.cons E1 (.cons E2 (.cons E3 .nil))))).e _ = _
  unfold sRet
  rw [bop3 (env1 := eT S o bs (.list (L w)) wy pa (FF s1 c1 t1 r1) n x8 x13 x14 x15 (.imm s.d) (.imm y10) (.own (FF s1 c1 t1 r1))) (env2 := eT S o bs (.list (L w)) wy pa (FF s1 c1 t1 r1) n x8 x13 x14 x15 (.imm s.d) (.imm y10) (.own (FF s1 c1 t1 r1))) (env3 := eT S o bs (.list (L w)) wy pa (FF s1 c1 t1 r1) n x8 x13 x14 x15 (.imm s.d) (.imm y10) (.own (FF s2 c2 t2 r2))) ?a ?b ?c]
  case a =>
    unfold E1
    walk_at "z"
    rw [f1]
    walk_at "z"
    rw [g1]
  case b =>
    subst f3
    unfold E2
    have go : ∀ d : D, r.d = d → (evE (run tb.T 19) E2).e (eT S o bs (.list (L w)) wy pa (FF s1 c1 t1 r1) n x8 x13 x14 x15 (.imm s.d) (.imm y10) (.own (FF s1 c1 t1 r1))) = some (.imm (.bool true), eT S o bs (.list (L w)) wy pa (FF s1 c1 t1 r1) n x8 x13 x14 x15 (.imm s.d) (.imm y10) (.own (FF s1 c1 t1 r1))) := by
      intro d hd
      rw [hd] at f4
      unfold E2
      cases r with
      | imm d' =>
        have hd : d' = d := hd
        subst hd
        walk_at "z"
        rw [f2]
        walk_at "z"
        rw [f2]
        walk_at "z"
        rw [f4]
      | own o' =>
        cases o' with
        | lst xs =>
          have hd : PyData.list xs = d := hd
          subst hd
          walk_at "z"
          rw [f2]
          walk_at "z"
          rw [f2]
          walk_at "z"
          rw [f4]
        | _ =>
          have hd : junk = d := hd
          subst hd
          walk_at "z"
          rw [f2]
          walk_at "z"
          rw [f2]
          walk_at "z"
          rw [f4]
    exact go _ rfl
  case c =>
    have e := L_app w [1, 2, 3]
    have e' : L w ++ [PyData.int 1, .int 2, .int 3] = L (w ++ [1, 2, 3]) := e
    have e5 : [PyData.int 1, .int 2, .int 3].length = 3 := rfl
    unfold E3
    cases hm : s.isM with
    | true =>
      have h6 := f6 hm
      walk_at "z"
      rw [f5]
      walk_at "z"
      rw [hm]
      walk_at "z"
      rw [e', h6]
      walk_at "z"
      rw [g2]
    | false =>
      have h7 := f7 hm
      subst h7
      walk_at "z"
      rw [f5]
      walk_at "z"
      rw [hm]
      walk_at "z"
      rw [g2]
theorem tl4 {s s1 : Sta} {c1 : Option Nat} {t1 r1 : List Int} {x y : D} {r : Res} {dv : D}
    (f2 : run tb.T 19 27 (some (FF s1 c1 t1 r1)) [] = some (r, some (FF s1 c1 t1 r1))) (f3 : r.d = dv) (f4 : run tb.T 19 12 none [dv, dv] = some (.imm (.bool true), none))
    (f5 : dv = if s.isW then y else .none)
    (h : W (evSs (run tb.T 19) TL5 (eT S o bs (.list (L w)) wy pa (FF s1 c1 t1 r1) n x8 x13 x14 x15 (.imm s.d) (.imm (.tuple [x, y])) .no)) okL) :
    W (evSs (run tb.T 19) TL4 (eT S o bs (.list (L w)) wy pa (FF s1 c1 t1 r1) n x8 x13 x14 x15 (.imm s.d) (.imm (.tuple [x, y])) .no)) okL := by
  have hs := szl
  have a1 := at2_1 x y
  refine W_cons (W_if (k := false) (env' := eT S o bs (.list (L w)) wy pa (FF s1 c1 t1 r1) n x8 x13 x14 x15 (.imm s.d) (.imm (.tuple [x, y])) .no) ?_ (fun z => nomatch z) (fun _ => W_nil h))
  clear h
  subst f3
  cases hm : s.isW with
  | true =>
    rw [hm, if_pos rfl] at f5
    cases r with
    | imm d =>
      have f5 : d = y := f5
      subst f5
      have f4 : run tb.T 19 12 none [d, d] = some (.imm (.bool true), none) := f4
      walk_at "z"
      rw [f2]
      walk_at "z"
      rw [hm]
      walk_at "z"
      rw [a1]
      walk_at "z"
      rw [f4]
      walk_at "z"
    | own o' =>
      cases o' with
      | lst xs =>
        have f5 : PyData.list xs = y := f5
        subst f5
        have f4 : run tb.T 19 12 none [.list xs, .list xs] = some (.imm (.bool true), none) := f4
        walk_at "z"
        rw [f2]
        walk_at "z"
        rw [hm]
        walk_at "z"
        rw [a1]
        walk_at "z"
        rw [f4]
        walk_at "z"
      | _ =>
        have f5 : junk = y := f5
        subst f5
        have f4 : run tb.T 19 12 none [junk, junk] = some (.imm (.bool true), none) := f4
        walk_at "z"
        rw [f2]
        walk_at "z"
        rw [hm]
        walk_at "z"
        rw [a1]
        walk_at "z"
        rw [f4]
        walk_at "z"
  | false =>
    rw [hm, if_neg Bool.false_ne_true] at f5
    cases r with
    | imm d =>
      have f5 : d = PyData.none := f5
      subst f5
      have f4 : run tb.T 19 12 none [PyData.none, .none] = some (.imm (.bool true), none) := f4
      walk_at "z"
      rw [f2]
      walk_at "z"
      rw [hm]
      walk_at "z"
      rw [f4]
      walk_at "z"
    | own o' =>
      cases o' with
      | _ => cases f5
end
end K48
namespace K48
open PySem PySem.Spec PyProof.Rows Z
local macro_rules | `(tactic| walk_at "z") => `(tactic| simp (disch := first | omega | assumption | decide | (apply IsP.l; assumption) | exact isl_ins) only [cFld, insAt, cNew, cMeth, sSetf, FS_state, FS_count, FS_taken, FS_rest, FS_len, FS_m1, FS_m2, FS_m3, FS_m4, put_state, put_count, put_taken, put_rest, sh_st, sh_mr, sh_wh, eqv_more, eqv_whole, eq_self, IFP, IFdiv, IFpow, IFT, IFtt, sh_int, sh_bool, sh_none, sh_L, Bool.and_self, Bool.true_and, Bool.and_true, flatD, List.all_cons, List.all_nil, List.length_cons, List.length_nil, decide_true, decide_false, Bool.not_false, Bool.not_true, eqv_int, eqv_L, evSs, evS, evE, evEs, evI, mE, msCons, msNil, Es.isNil, cV, cC, cGl, vOf, cOp, opD, addD, mulD, Z.intD, mulOk_l, mulOk_r, cNeg, cCmp, cmpD, ordD, cNot, cIte, cLst, cTup, cCall, cCallIO, cBi, biD, lenD, listD, tupleD, int1D, int2D, allD, sumD, intsD, boolsD, strD, cIsi, isiD, cPopv, cMe, meD, cRev, revD, sMk, seqD, cLenv, cIxv, cSlv, cIx, ixD, cSl, slD, tE, tV, tNot, truD, esCons, bCons, tCons, tsCons, pOne, iIt, iRng, iEnu, tupOf, itD, rangeD, sAsg, sAsgT, sSetix, sApp, sExt, sExpr, sRet, sRetV, sIf, rdV, rdR, ownAt, putO, put1, ioB_no, ioB_imm, ioB_own, ioB_gs, putT, putR, fz, Res.d, O.d, Slot.o,
  List.getElem?_cons_zero, List.getElem?_cons_succ, List.set_cons_zero, List.set_cons_succ, if_true, if_false, ite_true, ite_false, Bool.false_eq_true, reduceIte])
local macro_rules | `(tactic| walk_at "zs") => `(tactic| simp (disch := first | omega | assumption | decide | (apply IsP.l; assumption) | exact isl_ins) only [cFld, insAt, cNew, cMeth, sSetf, FS_state, FS_count, FS_taken, FS_rest, FS_len, FS_m1, FS_m2, FS_m3, FS_m4, put_state, put_count, put_taken, put_rest, sh_st, sh_mr, sh_wh, eqv_more, eqv_whole, eq_self, IFP, IFdiv, IFpow, IFT, IFtt, sh_int, sh_bool, sh_none, sh_L, Bool.and_self, Bool.true_and, Bool.and_true, flatD, List.all_cons, List.all_nil, List.length_cons, List.length_nil, decide_true, decide_false, Bool.not_false, Bool.not_true, eqv_int, eqv_L, evSs, evS, evE, evEs, evI, mE, msCons, msNil, Es.isNil, cV, cC, cGl, vOf, cOp, opD, addD, mulD, Z.intD, mulOk_l, mulOk_r, cNeg, cCmp, cmpD, ordD, cNot, cIte, cLst, cTup, cCall, cCallIO, cBi, biD, lenD, listD, tupleD, int1D, int2D, allD, sumD, intsD, boolsD, strD, cIsi, isiD, cPopv, cMe, meD, cRev, revD, sMk, seqD, cLenv, cIxv, cSlv, cIx, ixD, cSl, slD, tE, tV, tNot, truD, esCons, bCons, tCons, tsCons, pOne, iIt, iRng, iEnu, tupOf, itD, rangeD, sAsg, sAsgT, sSetix, sApp, sExt, sExpr, sRet, sRetV, sIf, rdV, rdR, ownAt, putO, put1, ioB_no, ioB_imm, ioB_own, ioB_gs, putT, putR, fz, Res.d, O.d, Slot.o,
  List.getElem?_cons_zero, List.getElem?_cons_succ, List.set_cons_zero, List.set_cons_succ, if_true, if_false, ite_true, ite_false, Bool.false_eq_true, reduceIte, *])
/-! ### the loop and what is behind it */ -/
section
variable {S : D} {o : O} {bs w : List Int} {wy pa : Int} {n : Nat} {x8 x13 x14 x15 : Option D}
theorem tl3 {s : Sta} {F : O} {x y : D} (hB : isB bs) (hb : bs.length ≤ 200)
    (h1 : wy ≠ 2 → run tb.T 19 5 none [.list (L w)] = some (.imm (.tuple [x, y]), none)) (h2 : wy = 2 → x = .str "data" ∧ y = .list (L bs))
    (h : W (evSs (run tb.T 19) TL4 (eT S o bs (.list (L w)) wy pa F n x8 x13 x14 x15 (.imm s.d) (.imm (.tuple [x, y])) .no)) okL) :
    W (evSs (run tb.T 19) TL3 (eT S o bs (.list (L w)) wy pa F n x8 x13 x14 x15 (.imm s.d) .no .no)) okL := by
  have hs := szl
  refine W_next (env' := eT S o bs (.list (L w)) wy pa F n x8 x13 x14 x15 (.imm s.d) (.imm (.tuple [x, y])) .no) ?_ h
  clear h
  by_cases hy : wy = 2
  · obtain ⟨rfl, rfl⟩ := h2 hy
    have g1 := f_blocks_of 16 bs hB (by omega)
    have g2 := v_whole 15 hB (by omega : bs.length ≤ 5000)
    have d : decide (wy = 2) = true := decide_eq_true hy
    clear h1 h2 hy
    generalize blocks bs = bb at *
    walk_at "z"
    rw [d]
    walk_at "z"
    rw [g1]
    walk_at "z"
    rw [g2]
    rfl
  · have g1 := h1 hy
    have d : decide (wy = 2) = false := decide_eq_false hy
    clear h1 h2 hy
    walk_at "z"
    rw [d]
    walk_at "z"
    rw [g1]
    rfl
theorem tl_ok {m : Nat} (D : Wd bs w m wy) (hB : isB bs) (hb : bs.length ≤ 200) (hw : w.length ≤ 600) (hn : n ≤ w.length) :
    W (evSs (run tb.T 19) TL1 (eL S o bs w wy pa (FNs bs w m n) n x8 x13 (gs x14) x15)) okL := by
  have hs := szl
  have hL := L_len w
  have G := D.G
  have hdue := f_due G 14 w.length (Nat.le_refl _)
  rw [List.take_length] at hdue
  refine W_next (env' := eT S o bs (.list (L w)) wy pa (FNs bs w m n) n x8 x13 x14 x15 (.imm (stJ (cntN bs.length) m (w.length / 64)).d) .no .no) ?_ ?_
  · generalize FNs bs w m n = F
    walk_at "z"
    rw [hdue]
    rfl
  refine W_cons (W_if (k := decide (n < w.length)) (env' := eT S o bs (.list (L w)) wy pa (FNs bs w m n) n x8 x13 x14 x15 (.imm (stJ (cntN bs.length) m (w.length / 64)).d) .no .no) ?_ (fun _ => ?_) (fun hz => W_nil ?_))
  · have e : decide ((n : Int) < ((L w).length : Int)) = decide (n < w.length) := decide_eq_decide.mpr (by omega)
    generalize FNs bs w m n = F
    walk_at "z"
    rw [e]
  · refine W_ret (r := .imm (.bool true)) (env' := eT S o bs (.list (L w)) wy pa (FNs bs w m n) n x8 x13 x14 x15 (.imm (stJ (cntN bs.length) m (w.length / 64)).d) .no .no) ?_ ⟨rfl, by simp only [ioOf, ioOf_gs]⟩
    generalize FNs bs w m n = F
    walk_at "z"
  have hz := of_decide_eq_false hz
  have e : n = w.length := by omega
  subst e
  obtain ⟨r, hr1, hr2⟩ := f_dataN G 17
  obtain ⟨x, y, hx1, hx2⟩ := f_data_any G 15
  obtain ⟨m', G', hm1, hm2⟩ := D.x3
  have hle := G.le
  have hW : (stJ (cntN bs.length) m (w.length / 64)).isW = true → m = cntN bs.length ∧ 64 * cntN bs.length ≤ w.length := fun h => by
    unfold stJ at h
    split at h
    · cases h
    · split at h
      · omega
      · cases h
  have hfn := fn_ext (t := [1, 2, 3]) hm1 hm2
  have hl3 : (w ++ [1, 2, 3]).length = w.length + 3 := List.length_append
  have f1 := f_feed G 15 0 w.length (Nat.zero_le _) (Nat.le_refl _) (by omega)
  have f5 := f_feed G' 15 w.length (w.length + 3) (by omega) (by omega) (by omega)
  rw [Nat.sub_zero, List.drop_zero, List.take_length] at f1
  have e3 : ((w ++ [1, 2, 3]).drop w.length).take (w.length + 3 - w.length) = [1, 2, 3] := by
    rw [List.drop_left' rfl, show w.length + 3 - w.length = 3 by omega]
    rfl
  rw [e3] at f5
  have f6 := f_due G' 14 (w.length + 3) (by omega)
  have e4 : (w ++ [1, 2, 3]).take (w.length + 3) = w ++ [1, 2, 3] := List.take_of_length_le (by omega)
  rw [e4] at f6
  have f1' : run tb.T 19 24 (some (FNs bs w m 0)) [.list (L w)] = some (.imm (stJ (cntN bs.length) m (w.length / 64)).d, some (FNs bs w m w.length)) := f1
  rw [fn_zero] at f1'
  have f5' : run tb.T 19 24 (some (FNs bs (w ++ [1, 2, 3]) m' w.length)) [.list [.int 1, .int 2, .int 3]] = some (.imm (stJ (cntN bs.length) m' ((w.length + 3) / 64)).d, some (FNs bs (w ++ [1, 2, 3]) m' (w.length + 3))) := f5
  rw [← hfn] at f5'
  have f7 : (stJ (cntN bs.length) m (w.length / 64)).isM = false → stJ (cntN bs.length) m' ((w.length + 3) / 64) = stJ (cntN bs.length) m (w.length / 64) := fun h => by
    rw [stJ_isM] at h
    have h := of_decide_eq_false h
    have h2 := hm2 h
    subst h2
    have h3 : ¬((w.length + 3) / 64 ≤ m' ∧ (w.length + 3) / 64 < cntN bs.length) := by omega
    unfold stJ
    rw [if_neg h, if_neg h3]
  have f4 : run tb.T 19 12 none [r.d, r.d] = some (.imm (.bool true), none) := by
    rw [hr2]
    split
    · exact f_same 1 _ (good_L 0 (by omega)) 17
    · exact f_same 0 .none rfl 18
  have last : ∀ y', W (evSs (run tb.T 19) TL5 (eT S o bs (.list (L w)) wy pa (FNs bs w m w.length) w.length x8 x13 x14 x15 (.imm (stJ (cntN bs.length) m (w.length / 64)).d) (.imm y') .no)) okL := fun y' =>
    tl5 (by omega) f1' hr1 rfl f4 f5' (fun _ => f6) f7
  by_cases hy : wy = 2
  · refine tl3 (x := .str "data") (y := .list (L bs)) hB hb (fun z => absurd hy z) (fun _ => ⟨rfl, rfl⟩) (tl4 hr1 rfl f4 hr2 (last _))
  · refine tl3 (x := x) (y := y) hB hb (fun _ => hx1) (fun z => absurd z hy) (tl4 hr1 rfl f4 ?_ (last _))
    rw [hr2]
    cases hw2 : (stJ (cntN bs.length) m (w.length / 64)).isW with
    | false => rfl
    | true =>
      obtain ⟨q1, q2⟩ := hW hw2
      have := D.ex hy q1
      rw [hx2 q1 (by omega)]
abbrev LP : Ss := .cons (.for_ 8 (.rng1 (.int 400)) l_law_1) TL1
theorem lp_ok {m : Nat} (D : Wd bs w m wy) (hB : isB bs) (hb : bs.length ≤ 200) (hw : w.length ≤ 600) (ho : IsP o) :
    W (evSs (run tb.T 19) LP (eL S o bs w wy pa (FF .more none [] []) 0 none none .no none)) okL := by
  have hs := szl
  rw [← fn_zero bs w m]
  refine W_cons ?_
  refine W_for (fun i e => ∃ (o : O) (n : Nat) (x8 x13 x14 x15 : Option PyData), e = eL S o bs w wy pa (FNs bs w m n) n x8 x13 (gs x14) x15 ∧ IsP o ∧ n ≤ w.length) (ds := (List.range 400).map fun j : Nat => PyData.int (j : Int)) ?_ ⟨o, 0, none, none, none, none, rfl, ho, Nat.zero_le _⟩ ?_ ?_
  · generalize FNs bs w m 0 = F
    walk_at "z"
    rfl
  · rintro i d e hi ⟨o, n, x8, x13, x14, x15, rfl, ho, hn⟩
    obtain ⟨j, hj, rfl⟩ := List.mem_map.mp (List.mem_of_getElem? hi)
    clear hi
    refine ⟨eL S o bs w wy pa (FNs bs w m n) n (some (.int (j : Nat))) x13 (gs x14) x15, ?_, ?_⟩
    · generalize FNs bs w m n = F
      walk_at "z"
      rfl
    · exact l1_ok D.G hb (by omega) ho hn fun o n' a b c ho hn' => ⟨o, n', _, a, b, c, rfl, ho, hn'⟩
  · rintro e ⟨o, n, x8, x13, x14, x15, rfl, ho, hn⟩
    exact tl_ok D hB hb hw hn
end
end K48
namespace K48
open PySem PySem.Spec PyProof.Rows Z
local macro_rules | `(tactic| walk_at "z") => `(tactic| simp (disch := first | omega | assumption | decide | (apply IsP.l; assumption)) only [IFP, IFdiv, IFpow, IFT, IFtt, sh_int, sh_bool, sh_none, sh_L, Bool.and_self, Bool.true_and, Bool.and_true, flatD, List.all_cons, List.all_nil, List.length_cons, List.length_nil, decide_true, decide_false, Bool.not_false, Bool.not_true, eqv_int, eqv_L, evSs, evS, evE, evEs, evI, mE, msCons, msNil, Es.isNil, cV, cC, cGl, vOf, cOp, opD, addD, mulD, Z.intD, mulOk_l, mulOk_r, cNeg, cCmp, cmpD, ordD, cNot, cIte, cLst, cTup, cCall, cCallIO, cBi, biD, lenD, listD, tupleD, int1D, int2D, allD, sumD, intsD, boolsD, strD, cIsi, isiD, cPopv, cMe, meD, cRev, revD, sMk, seqD, cLenv, cIxv, cSlv, cIx, ixD, cSl, slD, tE, tV, tNot, truD, esCons, bCons, tCons, tsCons, pOne, iIt, iRng, iEnu, tupOf, itD, rangeD, sAsg, sAsgT, sSetix, sApp, sExt, sExpr, sRet, sRetV, sIf, rdV, rdR, ownAt, putO, put1, ioB_no, ioB_imm, ioB_own, ioB_gs, putT, putR, fz, Res.d, O.d, Slot.o,
  List.getElem?_cons_zero, List.getElem?_cons_succ, List.set_cons_zero, List.set_cons_succ, if_true, if_false, ite_true, ite_false, Bool.false_eq_true, reduceIte])
local macro_rules | `(tactic| walk_at "zs") => `(tactic| simp (disch := first | omega | assumption | decide | (apply IsP.l; assumption)) only [IFP, IFdiv, IFpow, IFT, IFtt, sh_int, sh_bool, sh_none, sh_L, Bool.and_self, Bool.true_and, Bool.and_true, flatD, List.all_cons, List.all_nil, List.length_cons, List.length_nil, decide_true, decide_false, Bool.not_false, Bool.not_true, eqv_int, eqv_L, evSs, evS, evE, evEs, evI, mE, msCons, msNil, Es.isNil, cV, cC, cGl, vOf, cOp, opD, addD, mulD, Z.intD, mulOk_l, mulOk_r, cNeg, cCmp, cmpD, ordD, cNot, cIte, cLst, cTup, cCall, cCallIO, cBi, biD, lenD, listD, tupleD, int1D, int2D, allD, sumD, intsD, boolsD, strD, cIsi, isiD, cPopv, cMe, meD, cRev, revD, sMk, seqD, cLenv, cIxv, cSlv, cIx, ixD, cSl, slD, tE, tV, tNot, truD, esCons, bCons, tCons, tsCons, pOne, iIt, iRng, iEnu, tupOf, itD, rangeD, sAsg, sAsgT, sSetix, sApp, sExt, sExpr, sRet, sRetV, sIf, rdV, rdR, ownAt, putO, put1, ioB_no, ioB_imm, ioB_own, ioB_gs, putT, putR, fz, Res.d, O.d, Slot.o,
  List.getElem?_cons_zero, List.getElem?_cons_succ, List.set_cons_zero, List.set_cons_succ, if_true, if_false, ite_true, ite_false, Bool.false_eq_true, reduceIte, *])
/-! ### the five ways -/
theorem gd_app {bs w t : List Int} {m : Nat} (G : Gd bs w m) (h : m < cntN bs.length → 64 * (m + 1) ≤ w.length) (h' : m = cntN bs.length → 64 * m ≤ w.length) (ht : isB t) : Gd bs (w ++ t) m := by
  have hle := G.le
  have e : (w ++ t).take w.length = w := List.take_left' rfl
  have hp : ∀ i, 64 * (i + 1) ≤ w.length → piece (w ++ t) i = piece w i := fun i hi => by
    have := piece_take (w := w ++ t) hi
    rw [e] at this
    exact this.symm
  have hm : 64 * m ≤ w.length := by
    by_cases q : m = cntN bs.length
    · exact h' q
    · have := h (by omega)
      omega
  refine ⟨isB_app G.isb ht, G.lb, G.le, fun i hi => ?_, fun q => ?_, ?_⟩
  · rw [hp i (by omega)]
    exact G.R i hi
  · have := datas_cut (w := w ++ t) m hm
    rw [e] at this
    rw [← this]
    exact G.hd q
  · rcases G.bad with q | q
    · exact .inl q
    · by_cases q2 : m = cntN bs.length
      · exact .inl q2
      · right
        rw [hp m (h (by omega))]
        exact q
theorem isB3 : isB [1, 2, 3] := fun x hx => by
  simp only [List.mem_cons, List.not_mem_nil, or_false] at hx
  omega
/-- whole, or with more behind -/
theorem wd_more {bs : List Int} (hB : isB bs) (hb : bs.length ≤ 200) {t : List Int} (ht : isB t) (wy : Int) (hy : wy ≠ 2 → t = []) : Wd bs (blocks bs ++ t) (cntN bs.length) wy := by
  have hl : bs.length ≤ 5000 := by omega
  have G : Gd bs (blocks bs ++ t) (cntN bs.length) := ⟨isB_app (blocks_isB hB hl) ht, hl, Nat.le_refl _, right_blocks hl t, fun _ => datas_blocks hl t, .inl rfl⟩
  refine ⟨G, fun h _ => ?_, ⟨_, gd_app G (fun h => absurd h (by omega)) (fun _ => ?_) isB3, fun h => h.1, fun _ => rfl⟩⟩
  · rw [hy h, List.append_nil, blocks_len]
    exact Nat.le_refl _
  · rw [List.length_append, blocks_len]
    omega
theorem gd_bad {bs w : List Int} {m : Nat} (hl : bs.length ≤ 5000) (hw : isB w) (hm : m < cntN bs.length) (hpre : w.take (64 * m) = (blocks bs).take (64 * m)) (hbad : isBlk (piece w m) ((m : Int) + 1) (if m = 0 then none else some ((cntN bs.length : Nat) : Int)) = false) : Gd bs w m := by
  refine ⟨hw, hl, by omega, fun i hi => ?_, fun q => absurd q (by omega), .inr hbad⟩
  have hr := right_blocks hl [] i (by omega)
  rw [List.append_nil] at hr
  have h1 := piece_take (w := w) (i := i) (n := 64 * m) (by omega)
  have h2 := piece_take (w := blocks bs) (i := i) (n := 64 * m) (by omega)
  rw [← h1, hpre, h2]
  exact hr
theorem piece_short {w : List Int} {m : Nat} {n : Int} {c : Option Int} (h : w.length < 64 * (m + 1)) : isBlk (piece w m) n c = false := isBlk_short (by
  unfold piece
  rw [List.length_take, List.length_drop]
  omega)
/-- cut, three bytes more behind -/
theorem gd_cut3 {bs : List Int} (hB : isB bs) (hb : bs.length ≤ 200) {a : Nat} (ha : a < 64 * cntN bs.length) : ∃ m', Gd bs ((blocks bs).take a ++ [1, 2, 3]) m' ∧ a / 64 ≤ m' := by
  have hl : bs.length ≤ 5000 := by omega
  have hbl := blocks_len bs
  have hla : ((blocks bs).take a).length = a := by rw [List.length_take]; omega
  have hw : isB ((blocks bs).take a ++ [1, 2, 3]) := isB_app (isB_take (blocks_isB hB hl) a) isB3
  have hlen : ((blocks bs).take a ++ [1, 2, 3]).length = a + 3 := by rw [List.length_append, hla]; rfl
  have pre : ∀ q, q ≤ a → ((blocks bs).take a ++ [1, 2, 3]).take q = (blocks bs).take q := fun q hq => by
    rw [List.take_append_of_le_length (by omega), List.take_take, Nat.min_eq_left hq]
  have hj : a / 64 < cntN bs.length := by omega
  by_cases hbad : isBlk (piece ((blocks bs).take a ++ [1, 2, 3]) (a / 64)) (((a / 64 : Nat) : Int) + 1) (if a / 64 = 0 then none else some ((cntN bs.length : Nat) : Int)) = true
  · have h64 : 64 * (a / 64 + 1) ≤ a + 3 := by
      apply Classical.byContradiction
      intro hc
      rw [piece_short (by omega)] at hbad
      cases hbad
    obtain ⟨r1, r2, r3⟩ := right_piece hl hj []
    rw [List.append_nil] at r1 r2 r3
    have h60 : (piece ((blocks bs).take a ++ [1, 2, 3]) (a / 64)).take 60 = (piece (blocks bs) (a / 64)).take 60 := by
      have e1 : ∀ v : List Int, (piece v (a / 64)).take 60 = (v.take (64 * (a / 64) + 60)).drop (64 * (a / 64)) := fun v => by
        unfold piece
        rw [List.take_take, List.drop_take]
        congr 1
        omega
      rw [e1, e1, pre _ (by omega)]
    have hmany : ∀ u v : List Int, u.take 60 = v.take 60 → many u = many v := fun u v h => by
      have g : ∀ z : List Int, many z = many (z.take 60) := fun z => by
        unfold many
        rw [List.getD_eq_getElem?_getD, List.getD_eq_getElem?_getD, List.getD_eq_getElem?_getD, List.getD_eq_getElem?_getD, List.getElem?_take_of_lt (by omega), List.getElem?_take_of_lt (by omega)]
      rw [g u, g v, h]
    have hdat : ∀ u v : List Int, u.take 60 = v.take 60 → (u.drop 4).take 56 = (v.drop 4).take 56 := fun u v h => by
      have g : ∀ z : List Int, (z.drop 4).take 56 = (z.take 60).drop 4 := fun z => by rw [List.drop_take]
      rw [g u, g v, h]
    have old : ∀ i, i < a / 64 → piece ((blocks bs).take a ++ [1, 2, 3]) i = piece (blocks bs) i := fun i hi => by
      have h1 := piece_take (w := (blocks bs).take a ++ [1, 2, 3]) (i := i) (n := a) (by omega)
      have h2 := piece_take (w := blocks bs) (i := i) (n := a) (by omega)
      rw [← h1, pre a (Nat.le_refl _), h2]
    refine ⟨a / 64 + 1, ⟨hw, hl, by omega, fun i hi => ?_, fun q => ?_, ?_⟩, by omega⟩
    · by_cases hi2 : i < a / 64
      · have hr := right_blocks hl [] i (by omega)
        rw [List.append_nil] at hr
        rw [old i hi2]
        exact hr
      · have : i = a / 64 := by omega
        subst this
        exact ⟨hbad, (hmany _ _ h60).trans r2⟩
    · have hd := datas_blocks hl []
      rw [List.append_nil, ← q, datas_succ] at hd
      rw [datas_succ, hdat _ _ h60, ← hd]
      congr 1
      have e1 := datas_cut (w := (blocks bs).take a ++ [1, 2, 3]) (n := a) (a / 64) (by omega)
      have e2 := datas_cut (w := blocks bs) (n := a) (a / 64) (by omega)
      rw [pre a (Nat.le_refl _)] at e1
      rw [← e1, e2]
    · by_cases q : a / 64 + 1 = cntN bs.length
      · exact .inl q
      · right
        exact piece_short (by rw [hlen]; omega)
  · refine ⟨a / 64, gd_bad hl hw hj (pre _ (by omega)) (by simpa using hbad), Nat.le_refl _⟩
theorem wd_cut {bs : List Int} (hB : isB bs) (hb : bs.length ≤ 200) {a : Nat} (ha : a < 64 * cntN bs.length) (wy : Int) : Wd bs ((blocks bs).take a) (a / 64) wy := by
  have hl : bs.length ≤ 5000 := by omega
  have hbl := blocks_len bs
  have hla : ((blocks bs).take a).length = a := by rw [List.length_take]; omega
  have hj : a / 64 < cntN bs.length := by omega
  obtain ⟨m', G', hm'⟩ := gd_cut3 hB hb ha
  refine ⟨gd_bad hl (isB_take (blocks_isB hB hl) a) hj ?_ (piece_short (by omega)), fun _ q => absurd q (by omega), ⟨m', G', fun _ => by rw [hla]; exact hm', fun q => absurd ⟨by omega, by omega⟩ q⟩⟩
  rw [List.take_take, Nat.min_eq_left (by omega)]
/-- a byte is changed -/
theorem wd_bent {bs : List Int} (hB : isB bs) (hb : bs.length ≤ 200) {a : Nat} {x y : Int} (hx : (blocks bs)[a]? = some x) (hy : 0 ≤ y ∧ y < 256) (hxy : y ≠ x) (wy : Int) : Wd bs ((blocks bs).set a y) (a / 64) wy := by
  have hl : bs.length ≤ 5000 := by omega
  have hbl := blocks_len bs
  have hbB := blocks_isB hB hl
  have ha : a < 64 * cntN bs.length := by
    have := (List.getElem?_eq_some_iff.mp hx).1
    omega
  have hj : a / 64 < cntN bs.length := by omega
  have hw : isB ((blocks bs).set a y) := fun z hz => by
    rcases List.mem_or_eq_of_mem_set hz with q | q
    · exact hbB z q
    · rw [q]
      exact hy
  have hls : ((blocks bs).set a y).length = 64 * cntN bs.length := by rw [List.length_set]; exact hbl
  have hps : piece ((blocks bs).set a y) (a / 64) = (piece (blocks bs) (a / 64)).set (a % 64) y := by
    unfold piece
    rw [List.drop_set, if_neg (by omega), List.take_set]
    congr 1
    omega
  obtain ⟨r1, r2, r3⟩ := right_piece hl hj []
  rw [List.append_nil] at r1 r2 r3
  have hlen := isBlk_len r1
  have hxp : (piece (blocks bs) (a / 64))[a % 64]? = some x := by
    unfold piece
    rw [List.getElem?_take_of_lt (by omega), List.getElem?_drop, show 64 * (a / 64) + a % 64 = a by omega]
    exact hx
  have hbad : isBlk (piece ((blocks bs).set a y) (a / 64)) (((a / 64 : Nat) : Int) + 1) (if a / 64 = 0 then none else some ((cntN bs.length : Nat) : Int)) = false := by
    cases hq : isBlk (piece ((blocks bs).set a y) (a / 64)) (((a / 64 : Nat) : Int) + 1) (if a / 64 = 0 then none else some ((cntN bs.length : Nat) : Int)) with
    | false => rfl
    | true =>
      exfalso
      have sumOf : ∀ {t : List Int} {n : Int} {c : Option Int}, isBlk t n c = true → t.drop 60 = sumB (t.take 60) := fun h => by
        unfold isBlk at h
        simp only [Bool.and_eq_true, decide_eq_true_eq] at h
        exact h.1.2
      have h1 := sumOf r1
      have h2 := sumOf hq
      rw [hps] at h2
      have e := block_eq (s := piece (blocks bs) (a / 64)) (t := (piece (blocks bs) (a / 64)).set (a % 64) y) (piece_isB hbB _) (by rw [← hps]; exact piece_isB hw _) hlen (by rw [List.length_set]; exact hlen) h1 h2 (p := min (8 * (a % 64)) 480) (Nat.min_le_right _ _) (fun i hi => by
        by_cases hi2 : i < 512
        · have hne : i / 8 ≠ a % 64 := by omega
          have hlt : i / 8 < (piece (blocks bs) (a / 64)).length := by omega
          have g1 := bitsOf_at (piece (blocks bs) (a / 64)) (i / 8) (i % 8) _ (List.getElem?_eq_getElem hlt) (by omega)
          have g2 := bitsOf_at ((piece (blocks bs) (a / 64)).set (a % 64) y) (i / 8) (i % 8) _ (by rw [List.getElem?_set_ne (Ne.symm hne)]; exact List.getElem?_eq_getElem hlt) (by omega)
          rw [show 8 * (i / 8) + i % 8 = i by omega] at g1 g2
          rw [List.getD_eq_getElem?_getD, List.getD_eq_getElem?_getD, g1, g2]
        · rw [List.getD_eq_getElem?_getD, List.getD_eq_getElem?_getD, List.getElem?_eq_none (by rw [bitsOf_len, hlen]; omega), List.getElem?_eq_none (by rw [bitsOf_len, List.length_set, hlen]; omega)])
      have e2 : ((piece (blocks bs) (a / 64)).set (a % 64) y)[a % 64]? = some y := List.getElem?_set_self (by omega)
      rw [← e, hxp] at e2
      exact hxy (Option.some.inj e2).symm
  have G := gd_bad hl hw hj (by rw [List.take_set, List.set_eq_of_length_le (by rw [List.length_take]; omega)]) hbad
  exact ⟨G, fun _ q => absurd q (by omega), ⟨_, gd_app G (fun _ => by omega) (fun q => absurd q (by omega)) isB3, fun q => absurd q.2 (by omega), fun _ => rfl⟩⟩
/-- the first block behind the others -/
theorem wd_turn {bs : List Int} (hB : isB bs) (hb : bs.length ≤ 200) (wy : Int) : ∃ m, Wd bs ((blocks bs).drop 64 ++ (blocks bs).take 64) m wy := by
  have hl : bs.length ≤ 5000 := by omega
  have hbl := blocks_len bs
  have hbB := blocks_isB hB hl
  have hc1 : 1 ≤ cntN bs.length := (cnt_ge bs.length).2.2
  by_cases h1 : cntN bs.length = 1
  · have e : (blocks bs).drop 64 ++ (blocks bs).take 64 = blocks bs ++ [] := by
      rw [List.drop_eq_nil_of_le (by omega), List.take_of_length_le (by omega), List.append_nil, List.nil_append]
    rw [e]
    exact ⟨_, wd_more hB hb (fun x hx => by cases hx) wy fun _ => rfl⟩
  · have hw : isB ((blocks bs).drop 64 ++ (blocks bs).take 64) := isB_app (isB_drop hbB _) (isB_take hbB _)
    have hlen : ((blocks bs).drop 64 ++ (blocks bs).take 64).length = 64 * cntN bs.length := by
      rw [List.length_append, List.length_drop, List.length_take]
      omega
    have hp : piece ((blocks bs).drop 64 ++ (blocks bs).take 64) 0 = piece (blocks bs) 1 := by
      unfold piece
      rw [Nat.mul_zero, List.drop_zero, List.take_append_of_le_length (by rw [List.length_drop]; omega)]
    obtain ⟨r1, r2, r3⟩ := right_piece hl (show 1 < cntN bs.length by omega) []
    rw [List.append_nil] at r1 r2 r3
    have hbad : isBlk (piece ((blocks bs).drop 64 ++ (blocks bs).take 64) 0) (((0 : Nat) : Int) + 1) (if (0 : Nat) = 0 then none else some ((cntN bs.length : Nat) : Int)) = false := by
      rw [hp]
      unfold isBlk at r1 ⊢
      simp only [Bool.and_eq_true, decide_eq_true_eq] at r1
      have h2 := r1.2.1
      rw [decide_eq_false (p := 256 * (piece (blocks bs) 1).getD 0 0 + (piece (blocks bs) 1).getD 1 0 = ((0 : Nat) : Int) + 1) (by omega), Bool.false_and, Bool.and_false]
    have G := gd_bad hl hw (show 0 < cntN bs.length by omega) (by rw [Nat.mul_zero]; rfl) hbad
    exact ⟨0, G, fun _ q => absurd q (by omega), ⟨_, gd_app G (fun _ => by omega) (fun q => absurd q (by omega)) isB3, fun q => absurd q.1 (by omega), fun _ => rfl⟩⟩
end K48
namespace K48
open PySem PySem.Spec PyProof.Rows Z
local macro_rules | `(tactic| walk_at "z") => `(tactic| simp (disch := first | omega | assumption | decide | (apply IsP.l; assumption) | exact isl_ins) only [cFld, insAt, cNew, cMeth, sSetf, FS_state, FS_count, FS_taken, FS_rest, FS_len, FS_m1, FS_m2, FS_m3, FS_m4, put_state, put_count, put_taken, put_rest, sh_st, sh_mr, sh_wh, eqv_more, eqv_whole, eq_self, IFP, IFdiv, IFpow, IFT, IFtt, sh_int, sh_bool, sh_none, sh_L, Bool.and_self, Bool.true_and, Bool.and_true, flatD, List.all_cons, List.all_nil, List.length_cons, List.length_nil, decide_true, decide_false, Bool.not_false, Bool.not_true, eqv_int, eqv_L, evSs, evS, evE, evEs, evI, mE, msCons, msNil, Es.isNil, cV, cC, cGl, vOf, cOp, opD, addD, mulD, Z.intD, mulOk_l, mulOk_r, cNeg, cCmp, cmpD, ordD, cNot, cIte, cLst, cTup, cCall, cCallIO, cBi, biD, lenD, listD, tupleD, int1D, int2D, allD, sumD, intsD, boolsD, strD, cIsi, isiD, cPopv, cMe, meD, cRev, revD, sMk, seqD, cLenv, cIxv, cSlv, cIx, ixD, cSl, slD, tE, tV, tNot, truD, esCons, bCons, tCons, tsCons, pOne, iIt, iRng, iEnu, tupOf, itD, rangeD, sAsg, sAsgT, sSetix, sApp, sExt, sExpr, sRet, sRetV, sIf, rdV, rdR, ownAt, putO, put1, ioB_no, ioB_imm, ioB_own, ioB_gs, putT, putR, fz, Res.d, O.d, Slot.o,
  List.getElem?_cons_zero, List.getElem?_cons_succ, List.set_cons_zero, List.set_cons_succ, if_true, if_false, ite_true, ite_false, Bool.false_eq_true, reduceIte])
local macro_rules | `(tactic| walk_at "zs") => `(tactic| simp (disch := first | omega | assumption | decide | (apply IsP.l; assumption) | exact isl_ins) only [cFld, insAt, cNew, cMeth, sSetf, FS_state, FS_count, FS_taken, FS_rest, FS_len, FS_m1, FS_m2, FS_m3, FS_m4, put_state, put_count, put_taken, put_rest, sh_st, sh_mr, sh_wh, eqv_more, eqv_whole, eq_self, IFP, IFdiv, IFpow, IFT, IFtt, sh_int, sh_bool, sh_none, sh_L, Bool.and_self, Bool.true_and, Bool.and_true, flatD, List.all_cons, List.all_nil, List.length_cons, List.length_nil, decide_true, decide_false, Bool.not_false, Bool.not_true, eqv_int, eqv_L, evSs, evS, evE, evEs, evI, mE, msCons, msNil, Es.isNil, cV, cC, cGl, vOf, cOp, opD, addD, mulD, Z.intD, mulOk_l, mulOk_r, cNeg, cCmp, cmpD, ordD, cNot, cIte, cLst, cTup, cCall, cCallIO, cBi, biD, lenD, listD, tupleD, int1D, int2D, allD, sumD, intsD, boolsD, strD, cIsi, isiD, cPopv, cMe, meD, cRev, revD, sMk, seqD, cLenv, cIxv, cSlv, cIx, ixD, cSl, slD, tE, tV, tNot, truD, esCons, bCons, tCons, tsCons, pOne, iIt, iRng, iEnu, tupOf, itD, rangeD, sAsg, sAsgT, sSetix, sApp, sExt, sExpr, sRet, sRetV, sIf, rdV, rdR, ownAt, putO, put1, ioB_no, ioB_imm, ioB_own, ioB_gs, putT, putR, fz, Res.d, O.d, Slot.o,
  List.getElem?_cons_zero, List.getElem?_cons_succ, List.set_cons_zero, List.set_cons_succ, if_true, if_false, ite_true, ite_false, Bool.false_eq_true, reduceIte, *])
/-! ### law: the whole */ -/
theorem of_ints : ∀ {ys : List D} {k : Int}, (∀ y ∈ ys, ∃ v : Int, y = .int v ∧ 0 ≤ v ∧ v < 256) → ∃ bs, ys = L bs ∧ isB bs
  | [], _, _ => ⟨[], rfl, fun x hx => by cases hx⟩
  | y :: ys, k, h => by
    obtain ⟨v, rfl, hv⟩ := h y List.mem_cons_self
    obtain ⟨bs, rfl, hb⟩ := of_ints (k := k) fun z hz => h z (List.mem_cons_of_mem _ hz)
    exact ⟨v :: bs, rfl, isB_cons hv hb⟩
abbrev eB (S : D) (o : O) (y2 y3 y4 y5 y6 y7 : Slot) : Z.Env := [.imm S, .own o, y2, y3, y4, y5, y6, y7, .no, .no, .no, .no, .no, .no, .no, .no]
theorem draws {o : O} {S : D} {y2 y3 y4 y5 : Slot} (lim nn : Int) (e : Z.E) (q : Z.I) (he : e = .callIO 11 1 (.cons (.int lim) .nil)) (hq : q = .rng1 (.callIO 11 1 (.cons (.int nn) .nil))) (hl : 0 < lim ∧ lim ≤ 256) (hn : 0 < nn ∧ nn ≤ 200) (ho : IsP o) :
    ∃ bs o', cComp (evE (run tb.T 19) e).e 12 (evI (run tb.T 19) q) (fun env => some (true, env)) (eB S o y2 y3 y4 y5 .no .no) = some (.own (.lst (L bs)), eB S o' y2 y3 y4 y5 .no .no) ∧ IsP o' ∧ isB bs ∧ (bs.length : Int) < nn := by
  subst he hq
  have hs := szl
  obtain ⟨v, o1, h1, ho1, hv1, hv2⟩ := f_draw 16 o nn ho (by omega)
  have hsrc : evI (run tb.T 19) (.rng1 (.callIO 11 1 (.cons (.int nn) .nil))) (eB S o y2 y3 y4 y5 .no .no) = some ((List.range v.toNat).map fun j : Nat => PyData.int (j : Int), eB S o1 y2 y3 y4 y5 .no .no) := by
    walk_at "z"
    rw [h1]
    walk_at "z"
  obtain ⟨ys, e', hc, hyl, hys, hQ⟩ := comp_inv (elt := (evE (run tb.T 19) (.callIO 11 1 (.cons (.int lim) .nil))).e) (j := 12) (s := .no) (fun e => ∃ (o : O) (x : Option PyData), e = [.imm S, .own o, y2, y3, y4, y5, .no, .no, .no, .no, .no, .no, gs x, .no, .no, .no] ∧ IsP o) (fun y => ∃ v : Int, y = .int v ∧ 0 ≤ v ∧ v < 256) hsrc rfl rfl (by rw [List.length_map, List.length_range]; omega) ⟨o1, none, rfl, ho1⟩ (by
    rintro e d ⟨o, x, rfl, ho⟩
    obtain ⟨u, o2, h2, ho2, hu1, hu2⟩ := f_draw 16 o lim ho (by omega)
    refine ⟨.int u, [.imm S, .own o2, y2, y3, y4, y5, .no, .no, .no, .no, .no, .no, .imm d, .no, .no, .no], ?_, ⟨u, rfl, by omega, by omega⟩, ⟨o2, some d, rfl, ho2⟩, rfl⟩
    show fz ((evE (run tb.T 19) (.callIO 11 1 (.cons (.int lim) .nil))).e [.imm S, .own o, y2, y3, y4, y5, .no, .no, .no, .no, .no, .no, .imm d, .no, .no, .no]) = _
    walk_at "z"
    rw [h2])
  obtain ⟨o5, x5, he5, ho5⟩ := hQ
  subst he5
  obtain ⟨bs, rfl, hB⟩ := of_ints (k := 0) hys
  rw [List.length_map, List.length_range, L_len] at hyl
  refine ⟨bs, o5, ?_, ho5, hB, by omega⟩
  rw [hc]
  cases x5 <;> rfl
abbrev B7 : Ss := .cons (.asg 6 (.new 23 "Feeder")) (.cons (.asg 7 (.int 0)) LP)
theorem b7_ok {S : D} {o : O} {bs w : List Int} {wy pa : Int} {m : Nat} (D : Wd bs w m wy) (hB : isB bs) (hb : bs.length ≤ 200) (hw : w.length ≤ 600) (ho : IsP o) :
    W (evSs (run tb.T 19) B7 (eB S o (.imm (.list (L bs))) (.own (.lst (L w))) (.imm (.int wy)) (.imm (.int pa)) .no .no)) okL := by
  have hi := f_new 18
  have fin := lp_ok (S := S) (o := o) (pa := pa) D hB hb hw ho
  refine W_next (env' := eB S o (.imm (.list (L bs))) (.own (.lst (L w))) (.imm (.int wy)) (.imm (.int pa)) (.own (FF .more none [] [])) .no) ?_ ?_
  · clear fin
    walk_at "z"
    rw [hi]
    walk_at "z"
  refine W_next (env' := eL S o bs w wy pa (FF .more none [] []) 0 none none .no none) ?_ fin
  clear fin
  walk_at "z"
  rfl
abbrev B6 : Ss := .cons (.ife (.cmp .eq (.v 4) (.int 0)) (.cons (.asg 3 (.slv 3 .nil (.cons (.v 5) .nil))) .nil) (.cons (.ife (.cmp .eq (.v 4) (.int 1)) (.cons (.asg 3 (.op .add (.op .add (.slv 3 .nil (.cons (.v 5) .nil)) (.lst (.cons (.op .mod (.bi .int (.cons (.op .add (.ixv 3 (.v 5)) (.int 1)) .nil)) (.int 256)) .nil))) (.slv 3 (.cons (.op .add (.v 5) (.int 1)) .nil) .nil))) .nil) (.cons (.ife (.cmp .eq (.v 4) (.int 2)) (.cons (.asg 3 (.op .add (.v 3) (.comp e_law_2 12 q_law_2 .nil))) .nil) (.cons (.ife (.cmp .eq (.v 4) (.int 3)) (.cons (.asg 3 (.op .add (.slv 3 (.cons (.int 64) .nil) .nil) (.slv 3 .nil (.cons (.int 64) .nil)))) .nil) .nil) .nil)) .nil)) .nil)) B7
theorem b6_ok {S : D} {o : O} {bs : List Int} {wy : Int} {a : Nat} (hB : isB bs) (hb : bs.length ≤ 200) (hwy : 0 ≤ wy ∧ wy < 5) (ha : a < (blocks bs).length) (ho : IsP o) :
    W (evSs (run tb.T 19) B6 (eB S o (.imm (.list (L bs))) (.own (.lst (L (blocks bs)))) (.imm (.int wy)) (.imm (.int (a : Nat))) .no .no)) okL := by
  have hs := szl
  have hbl := blocks_len bs
  have hc4 : cntN bs.length ≤ 4 := by unfold cntN; omega
  have hL := L_len (blocks bs)
  have hbB := blocks_isB hB (by omega : bs.length ≤ 5000)
  have fin := fun (o : O) (w : List Int) (m : Nat) (D : Wd bs w m wy) (hw : w.length ≤ 600) (ho : IsP o) => b7_ok (S := S) (pa := ((a : Nat) : Int)) D hB hb hw ho
  have tst : ∀ (j : Int) (k : Bool), decide (wy = j) = k → (evE (run tb.T 19) (.cmp .eq (.v 4) (.int j))).t (eB S o (.imm (.list (L bs))) (.own (.lst (L (blocks bs)))) (.imm (.int wy)) (.imm (.int (a : Nat))) .no .no) = some (k, eB S o (.imm (.list (L bs))) (.own (.lst (L (blocks bs)))) (.imm (.int wy)) (.imm (.int (a : Nat))) .no .no) := fun j k h => by
    clear fin
    walk_at "z"
    rw [h]
  by_cases h0 : wy = 0
  · refine W_cons (W_if (tst 0 true (decide_eq_true h0)) (fun _ => ?_) (fun z => nomatch z))
    refine W_next (env' := eB S o (.imm (.list (L bs))) (.own (.lst (L ((blocks bs).take a)))) (.imm (.int wy)) (.imm (.int (a : Nat))) .no .no) ?_ (W_nil (fin o _ _ (wd_cut hB hb (by omega) wy) (by rw [List.length_take]; omega) ho))
    have e1 := cut_to (blocks bs) a
    clear fin tst
    walk_at "z"
    rw [e1]
  refine W_cons (W_if (tst 0 false (decide_eq_false h0)) (fun z => nomatch z) (fun _ => ?_))
  by_cases h1 : wy = 1
  · refine W_cons (W_if (tst 1 true (decide_eq_true h1)) (fun _ => ?_) (fun z => nomatch z))
    obtain ⟨x, hx⟩ : ∃ x, (blocks bs)[a]? = some x := ⟨_, List.getElem?_eq_getElem ha⟩
    have hxB := hbB x (List.mem_of_getElem? hx)
    have hy : 0 ≤ (x + 1).fmod 256 ∧ (x + 1).fmod 256 < 256 := fm_pos _ (by decide)
    have hne : (x + 1).fmod 256 ≠ x := by
      rw [fm _ (by decide)]
      omega
    refine W_next (env' := eB S o (.imm (.list (L bs))) (.own (.lst (L ((blocks bs).set a ((x + 1).fmod 256))))) (.imm (.int wy)) (.imm (.int (a : Nat))) .no .no) ?_ (W_nil (W_nil (fin o _ _ (wd_bent hB hb hx hy hne wy) (by rw [List.length_set]; omega) ho)))
    have e1 := cut_to (blocks bs) a
    have e2 := cut_from (blocks bs) (a + 1)
    have e3 : ((a + 1 : Nat) : Int) = (a : Int) + 1 := by omega
    rw [e3] at e2
    have hg := at_nat (blocks bs) a x hx
    have hset : L ((blocks bs).take a) ++ [PyData.int ((x + 1).fmod 256)] ++ L ((blocks bs).drop (a + 1)) = L ((blocks bs).set a ((x + 1).fmod 256)) := by
      rw [List.set_eq_take_append_cons_drop, if_pos ha]
      show L _ ++ L [(x + 1).fmod 256] ++ L _ = _
      rw [L_app, L_app, List.append_assoc]
      rfl
    have l1 : (L ((blocks bs).take a)).length ≤ 300 := by rw [L_len, List.length_take]; omega
    have l2 : (L ((blocks bs).drop (a + 1))).length ≤ 300 := by rw [L_len, List.length_drop]; omega
    have l3 : ∀ d : PyData, (L ((blocks bs).take a) ++ [d]).length ≤ 301 := fun d => by rw [List.length_append]; exact Nat.add_le_add l1 (Nat.le_refl 1)
    have l4 := l3 (.int ((x + 1).fmod 256))
    have l5 : [PyData.int ((x + 1).fmod 256)].length = 1 := rfl
    clear fin tst hbB
    generalize L ((blocks bs).take a) = p1 at *
    generalize L ((blocks bs).drop (a + 1)) = p2 at *
    walk_at "z"
    rw [e1, hg]
    walk_at "z"
    rw [e2]
    walk_at "z"
    rw [hset]
  refine W_cons (W_if (tst 1 false (decide_eq_false h1)) (fun z => nomatch z) (fun _ => ?_))
  by_cases h2 : wy = 2
  · refine W_cons (W_if (tst 2 true (decide_eq_true h2)) (fun _ => ?_) (fun z => nomatch z))
    obtain ⟨t, o2, hd, ho2, htB, htl⟩ := draws (S := S) (y2 := .imm (.list (L bs))) (y3 := .imm (.list (L (blocks bs)))) (y4 := .imm (.int wy)) (y5 := .imm (.int (a : Nat))) 256 9 e_law_2 q_law_2 rfl rfl (by decide) (by decide) ho
    have happ := L_app (blocks bs) t
    have l1 : (L (blocks bs)).length ≤ 300 := by omega
    have l2 : (L t).length ≤ 9 := by rw [L_len]; omega
    refine W_next (env' := eB S o2 (.imm (.list (L bs))) (.own (.lst (L (blocks bs ++ t)))) (.imm (.int wy)) (.imm (.int (a : Nat))) .no .no) ?_ (W_nil (W_nil (W_nil (fin o2 _ _ (wd_more hB hb htB wy fun z => absurd h2 z) (by rw [List.length_append]; omega) ho2))))
    clear fin tst hbB
    rw [← happ]
    generalize L (blocks bs) = p1 at *
    generalize L t = p2 at *
    walk_at "z"
    rw [hd]
    walk_at "z"
  refine W_cons (W_if (tst 2 false (decide_eq_false h2)) (fun z => nomatch z) (fun _ => ?_))
  by_cases h3 : wy = 3
  · refine W_cons (W_if (tst 3 true (decide_eq_true h3)) (fun _ => ?_) (fun z => nomatch z))
    obtain ⟨m, D⟩ := wd_turn hB hb wy
    have e1 := cut_from (blocks bs) 64
    have e2 := cut_to (blocks bs) 64
    have happ := L_app ((blocks bs).drop 64) ((blocks bs).take 64)
    have l1 : (L ((blocks bs).drop 64)).length ≤ 300 := by rw [L_len, List.length_drop]; omega
    have l2 : (L ((blocks bs).take 64)).length ≤ 300 := by rw [L_len, List.length_take]; omega
    refine W_next (env' := eB S o (.imm (.list (L bs))) (.own (.lst (L ((blocks bs).drop 64 ++ (blocks bs).take 64)))) (.imm (.int wy)) (.imm (.int (a : Nat))) .no .no) ?_ (W_nil (W_nil (W_nil (W_nil (fin o _ _ D (by rw [List.length_append, List.length_drop, List.length_take]; omega) ho)))))
    clear fin tst hbB D
    rw [← happ]
    generalize L ((blocks bs).drop 64) = p1 at *
    generalize L ((blocks bs).take 64) = p2 at *
    walk_at "z"
    rw [show (64 : Int) = ((64 : Nat) : Int) from rfl, e1, e2]
    walk_at "z"
  refine W_cons (W_if (tst 3 false (decide_eq_false h3)) (fun z => nomatch z) (fun _ => ?_))
  have D := wd_more hB hb (t := []) (fun x hx => by cases hx) wy fun _ => rfl
  rw [List.append_nil] at D
  exact W_nil (W_nil (W_nil (W_nil (fin o _ _ D (by omega) ho))))
theorem law_true (ns : List Int) (h : ns.length ≤ 63) : Z.run tb.T 20 i_law none [Z.scrD ns] = some (.imm (.bool true), none) := by
  show runD (run tb.T 19) 16 b_law none [.dict [(.none, .list (L ns))]] = _
  refine runD_of ?_
  show W (evSs _ b_law [.imm (.dict [(.none, .list (L ns))]), .no, .no, .no, .no, .no, .no, .no, .no, .no, .no, .no, .no, .no, .no, .no]) okL
  obtain ⟨o, hp, ho⟩ := f_pool 16 ns
  generalize PyData.dict [(.none, .list (L ns))] = S at *
  have hs := szl
  have eq : b_law = .cons (.asg 1 (.call 9 (.cons (.v 0) .nil))) (.cons (.asg 2 (.comp e_law_1 12 q_law_1 .nil)) (.cons (.expr (.callIO 10 1 .nil)) (.cons (.asg 3 (.call 2 (.cons (.v 2) .nil))) (.cons (.asg 4 (.callIO 11 1 (.cons (.int 5) .nil))) (.cons (.asg 5 (.callIO 11 1 (.cons (.lenv 3) .nil))) B6))))) := rfl
  rw [eq]
  refine W_next (env' := eB S o .no .no .no .no .no .no) ?_ ?_
  · walk_at "z"
    rw [hp]
    walk_at "z"
  obtain ⟨bs, o1, hd, ho1, hB, hl⟩ := draws (S := S) (y2 := .no) (y3 := .no) (y4 := .no) (y5 := .no) 9 200 e_law_1 q_law_1 rfl rfl (by decide) (by decide) ho
  refine W_next (env' := eB S o1 (.own (.lst (L bs))) .no .no .no .no .no) ?_ ?_
  · walk_at "z"
    rw [hd]
    walk_at "z"
  obtain ⟨o2, q2, ho2⟩ := f_next 16 o1 ho1
  refine W_next (env' := eB S o2 (.own (.lst (L bs))) .no .no .no .no .no) ?_ ?_
  · walk_at "z"
    rw [q2]
  have q3 := f_blocks_of 16 bs hB (by omega)
  refine W_next (env' := eB S o2 (.imm (.list (L bs))) (.own (.lst (L (blocks bs)))) .no .no .no .no) ?_ ?_
  · walk_at "z"
    rw [q3]
    walk_at "z"
  obtain ⟨wy, o3, q4, ho3, hw1, hw2⟩ := f_draw 16 o2 5 ho2 (by decide)
  refine W_next (env' := eB S o3 (.imm (.list (L bs))) (.own (.lst (L (blocks bs)))) (.imm (.int wy)) .no .no .no) ?_ ?_
  · walk_at "z"
    rw [q4]
    walk_at "z"
  have hbl := blocks_len bs
  have hc1 : 1 ≤ cntN bs.length := (cnt_ge bs.length).2.2
  have hc4 : cntN bs.length ≤ 4 := by unfold cntN; omega
  have hL := L_len (blocks bs)
  obtain ⟨v, o4, q5, ho4, hv1, hv2⟩ := f_draw 16 o3 ((L (blocks bs)).length : Int) ho3 (by omega)
  obtain ⟨a, rfl⟩ : ∃ a : Nat, v = (a : Int) := ⟨v.toNat, by omega⟩
  refine W_next (env' := eB S o4 (.imm (.list (L bs))) (.own (.lst (L (blocks bs)))) (.imm (.int wy)) (.imm (.int (a : Nat))) .no .no) ?_ ?_
  · walk_at "z"
    rw [q5]
    walk_at "z"
  exact b6_ok hB (by omega) ⟨hw1, hw2⟩ (by omega) ho4
end K48
namespace K48
open PySem PySem.Spec PyProof.Rows L2
def d_sum_of_bits : He.DefD := ⟨("sum_of_bits", none), "sum_of_bits", "sum_of_bits", defArgs s_sum_of_bits, defBody s_sum_of_bits, defScope s_sum_of_bits, [], []⟩
def d_block : He.DefD := ⟨("block", none), "block", "block", defArgs s_block, defBody s_block, defScope s_block, [], []⟩
def d_blocks_of : He.DefD := ⟨("blocks_of", none), "blocks_of", "blocks_of", defArgs s_blocks_of, defBody s_blocks_of, defScope s_blocks_of, [], []⟩
def d_is_block : He.DefD := ⟨("is_block", none), "is_block", "is_block", defArgs s_is_block, defBody s_is_block, defScope s_is_block, [], []⟩
def d_without_end : He.DefD := ⟨("without_end", none), "without_end", "without_end", defArgs s_without_end, defBody s_without_end, defScope s_without_end, [], []⟩
def d_data_of : He.DefD := ⟨("data_of", none), "data_of", "data_of", defArgs s_data_of, defBody s_data_of, defScope s_data_of, [], []⟩
def d_number_bytes : He.DefD := ⟨("number_bytes", none), "number_bytes", "number_bytes", defArgs s_number_bytes, defBody s_number_bytes, defScope s_number_bytes, [], []⟩
def d_law_mixed : He.DefD := ⟨("_law_mixed", none), "_law_mixed", "_law_mixed", defArgs s_law_mixed, defBody s_law_mixed, defScope s_law_mixed, [], []⟩
def d_law_rest : He.DefD := ⟨("_law_rest", none), "_law_rest", "_law_rest", defArgs s_law_rest, defBody s_law_rest, defScope s_law_rest, [], []⟩
def d_law_pool : He.DefD := ⟨("_law_pool", none), "_law_pool", "_law_pool", defArgs s_law_pool, defBody s_law_pool, defScope s_law_pool, [], []⟩
def d_law_next : He.DefD := ⟨("_law_next", none), "_law_next", "_law_next", defArgs s_law_next, defBody s_law_next, defScope s_law_next, [], []⟩
def d_law_draw : He.DefD := ⟨("_law_draw", none), "_law_draw", "_law_draw", defArgs s_law_draw, defBody s_law_draw, defScope s_law_draw, [], []⟩
def d_law_same : He.DefD := ⟨("_law_same", none), "_law_same", "_law_same", defArgs s_law_same, defBody s_law_same, defScope s_law_same, [], []⟩
def d_is_plain : He.DefD := ⟨("is_plain", none), "is_plain", "is_plain", defArgs s_is_plain, defBody s_is_plain, defScope s_is_plain, [], []⟩
def d_feeder_of : He.DefD := ⟨("feeder_of", none), "feeder_of", "feeder_of", defArgs s_feeder_of, defBody s_feeder_of, defScope s_feeder_of, [], []⟩
def d_law_pick : He.DefD := ⟨("_law_pick", none), "_law_pick", "_law_pick", defArgs s_law_pick, defBody s_law_pick, defScope s_law_pick, [], []⟩
def d_law_due : He.DefD := ⟨("_law_due", none), "_law_due", "_law_due", defArgs s_law_due, defBody s_law_due, defScope s_law_due, [], []⟩
def d_value_of : He.DefD := ⟨("value_of", none), "value_of", "value_of", defArgs s_value_of, defBody s_value_of, defScope s_value_of, [], []⟩
def d_law : He.DefD := ⟨("law", none), "law", "law", defArgs s_law, defBody s_law, defScope s_law, [], []⟩
def d_bytes_of : He.DefD := ⟨("bytes_of", none), "bytes_of", "bytes_of", defArgs s_bytes_of, defBody s_bytes_of, defScope s_bytes_of, [], []⟩
def d_read_number : He.DefD := ⟨("read_number", none), "read_number", "read_number", defArgs s_read_number, defBody s_read_number, defScope s_read_number, [], []⟩
def d_read_string : He.DefD := ⟨("read_string", none), "read_string", "read_string", defArgs s_read_string, defBody s_read_string, defScope s_read_string, [], []⟩
def d_read_one : He.DefD := ⟨("read_one", none), "read_one", "read_one", defArgs s_read_one, defBody s_read_one, defScope s_read_one, [], []⟩
def d_Feeder_init : He.DefD := ⟨("Feeder", some "__init__"), "__init__", "Feeder.__init__", defArgs s_Feeder_init, defBody s_Feeder_init, defScope s_Feeder_init, [], []⟩
def d_Feeder_feed : He.DefD := ⟨("Feeder", some "feed"), "feed", "Feeder.feed", defArgs s_Feeder_feed, defBody s_Feeder_feed, defScope s_Feeder_feed, [], []⟩
def d_Feeder_take : He.DefD := ⟨("Feeder", some "take"), "take", "Feeder.take", defArgs s_Feeder_take, defBody s_Feeder_take, defScope s_Feeder_take, [], []⟩
def d_Feeder_told : He.DefD := ⟨("Feeder", some "told"), "told", "Feeder.told", defArgs s_Feeder_told, defBody s_Feeder_told, defScope s_Feeder_told, [], []⟩
def d_Feeder_data : He.DefD := ⟨("Feeder", some "data"), "data", "Feeder.data", defArgs s_Feeder_data, defBody s_Feeder_data, defScope s_Feeder_data, [], []⟩
def fn : List He.DefD := [d_sum_of_bits, d_block, d_blocks_of, d_is_block, d_without_end, d_data_of, d_number_bytes, d_law_mixed, d_law_rest, d_law_pool, d_law_next, d_law_draw, d_law_same, d_is_plain, d_feeder_of, d_law_pick, d_law_due, d_value_of, d_law, d_bytes_of, d_read_number, d_read_string, d_read_one, d_Feeder_init, d_Feeder_feed, d_Feeder_take, d_Feeder_told, d_Feeder_data]
def fa : List He.Fa := [.glo "sum_of_bits", .glo "block", .glo "blocks_of", .glo "is_block", .glo "without_end", .glo "data_of", .glo "number_bytes", .glo "_law_mixed", .glo "_law_rest", .glo "_law_pool", .glo "_law_next", .glo "_law_draw", .glo "_law_same", .glo "is_plain", .glo "feeder_of", .glo "_law_pick", .glo "_law_due", .glo "value_of", .glo "law", .glo "bytes_of", .glo "read_number", .glo "read_string", .glo "read_one", .free "all", .free "bool", .free "dict", .free "int", .free "isinstance", .free "len", .free "list", .free "range", .free "str", .free "tuple", .int "DATA" 56, .int "DEEPEST" 60, .int "FACTORS" 79764919, .str "SIGNS" "\n abcdefghijklmnopqrstuvwxyzABCDEFGHIJKLMNOPQRSTUVWXYZ0123456789(),=!<+-.", .int "SIZE" 64, .int "TOP" 4294967296, .cls "Feeder", .noat "Feeder" "state", .noat "Feeder" "count", .noat "Feeder" "taken", .noat "Feeder" "rest", .cls "Feeder", .meth "Feeder" "feed", .meth "Feeder" "take", .meth "Feeder" "told", .meth "Feeder" "data", .mkr "Feeder", .glo "Feeder"]
abbrev R : PySem.W.OpenRow := PySem.W.OpenLaw.row PySem.Challenge.rw_playproof_k48_whole_files_fed_in_pieces
abbrev hk : PySem.W.Hook := He.hookD 5 fa fn
def ob (s : PySem.W.SharedT) : He.AlD := He.obsDG 5 fa fn (HandSHeadRun.getT s)
theorem ob_eq (s : PySem.W.SharedT) : ob s = hk.obs s.abs := He.obsDG_eq (HandSHeadRun.getT_eq s)
def loose0 : List PySem.Str := ["SIZE", "DATA", "FACTORS", "TOP", "sum_of_bits", "block", "blocks_of", "is_block", "without_end", "data_of", "feeder_of", "Feeder", "DEEPEST", "SIGNS", "is_plain", "number_bytes", "bytes_of", "read_number", "read_string", "read_one", "value_of", "_law_mixed", "_law_rest", "_law_pool", "_law_next", "_law_draw", "_law_pick", "_law_same", "_law_due"]
def loose : List PySem.Str := loose0
theorem runH (w : World) : HandSHeadRun.RunEq R (PySem.W.view R.prog [33]) hk ob 2000 loose w := by
  intro os
  kernel_rfl
section
variable {K : PySem.W.Frag} {h : Heap} {mg : Str → Option Value}
theorem h_nb (X : K.In h) (G : h.Ns mainGlobals mg) (c : He.SaysD fa fn K) : ∀ x ∈ tb.nb, mg x = none := by
  intro x hx
  simp only [tb, List.mem_cons, List.not_mem_nil, or_false] at hx
  rcases hx with rfl | rfl | rfl | rfl | rfl | rfl | rfl | rfl | rfl | rfl
  · exact He.free_ok X G (c.fact 23 (f := .free "all") rfl)
  · exact He.free_ok X G (c.fact 24 (f := .free "bool") rfl)
  · exact He.free_ok X G (c.fact 25 (f := .free "dict") rfl)
  · exact He.free_ok X G (c.fact 26 (f := .free "int") rfl)
  · exact He.free_ok X G (c.fact 27 (f := .free "isinstance") rfl)
  · exact He.free_ok X G (c.fact 28 (f := .free "len") rfl)
  · exact He.free_ok X G (c.fact 29 (f := .free "list") rfl)
  · exact He.free_ok X G (c.fact 30 (f := .free "range") rfl)
  · exact He.free_ok X G (c.fact 31 (f := .free "str") rfl)
  · exact He.free_ok X G (c.fact 32 (f := .free "tuple") rfl)
theorem h_gc (X : K.In h) (G : h.Ns mainGlobals mg) (c : He.SaysD fa fn K) : ∀ x v, (x, v) ∈ tb.gc → ∃ u, mg x = some u ∧ RelV v u := by
  intro x v hx
  simp only [tb, List.mem_cons, List.not_mem_nil, or_false, Prod.mk.injEq] at hx
  rcases hx with ⟨rfl, rfl⟩ | ⟨rfl, rfl⟩ | ⟨rfl, rfl⟩ | ⟨rfl, rfl⟩ | ⟨rfl, rfl⟩ | ⟨rfl, rfl⟩
  · obtain ⟨t, e⟩ := He.int_ok X G (c.fact 33 (f := .int "DATA" 56) rfl)
    exact ⟨_, e, t, rfl⟩
  · obtain ⟨t, e⟩ := He.int_ok X G (c.fact 34 (f := .int "DEEPEST" 60) rfl)
    exact ⟨_, e, t, rfl⟩
  · obtain ⟨t, e⟩ := He.int_ok X G (c.fact 35 (f := .int "FACTORS" 79764919) rfl)
    exact ⟨_, e, t, rfl⟩
  · obtain ⟨t, e⟩ := He.str_ok X G (c.fact 36 (f := .str "SIGNS" "\n abcdefghijklmnopqrstuvwxyzABCDEFGHIJKLMNOPQRSTUVWXYZ0123456789(),=!<+-.") rfl)
    exact ⟨_, e, t, rfl⟩
  · obtain ⟨t, e⟩ := He.int_ok X G (c.fact 37 (f := .int "SIZE" 64) rfl)
    exact ⟨_, e, t, rfl⟩
  · obtain ⟨t, e⟩ := He.int_ok X G (c.fact 38 (f := .int "TOP" 4294967296) rfl)
    exact ⟨_, e, t, rfl⟩
theorem h_cl (X : K.In h) (G : h.Ns mainGlobals mg) (c : He.SaysD fa fn K) : Z.Clk tb K mg := by
  refine ⟨fun f' c' m' hx => ?_, fun c' f' hx => ?_, fun c' hx => ?_⟩
  · simp only [tb, List.mem_cons, List.not_mem_nil, or_false, Prod.mk.injEq] at hx
    rcases hx with ⟨rfl, rfl, rfl⟩ | ⟨rfl, rfl, rfl⟩ | ⟨rfl, rfl, rfl⟩ | ⟨rfl, rfl, rfl⟩ | ⟨rfl, rfl, rfl⟩
    · exact ⟨He.cls_ok (c.fact 39 (f := .cls "Feeder") rfl), .inl rfl⟩
    · exact ⟨He.cls_ok (c.fact 39 (f := .cls "Feeder") rfl), .inr (He.meth_ok (c.fact 45 (f := .meth "Feeder" "feed") rfl))⟩
    · exact ⟨He.cls_ok (c.fact 39 (f := .cls "Feeder") rfl), .inr (He.meth_ok (c.fact 46 (f := .meth "Feeder" "take") rfl))⟩
    · exact ⟨He.cls_ok (c.fact 39 (f := .cls "Feeder") rfl), .inr (He.meth_ok (c.fact 47 (f := .meth "Feeder" "told") rfl))⟩
    · exact ⟨He.cls_ok (c.fact 39 (f := .cls "Feeder") rfl), .inr (He.meth_ok (c.fact 48 (f := .meth "Feeder" "data") rfl))⟩
  · simp only [tb, List.mem_cons, List.not_mem_nil, or_false, Prod.mk.injEq] at hx
    rcases hx with ⟨rfl, rfl⟩ | ⟨rfl, rfl⟩ | ⟨rfl, rfl⟩ | ⟨rfl, rfl⟩
    · exact ⟨He.cls_ok (c.fact 39 (f := .cls "Feeder") rfl), He.noat_ok (c.fact 40 (f := .noat "Feeder" "state") rfl)⟩
    · exact ⟨He.cls_ok (c.fact 39 (f := .cls "Feeder") rfl), He.noat_ok (c.fact 41 (f := .noat "Feeder" "count") rfl)⟩
    · exact ⟨He.cls_ok (c.fact 39 (f := .cls "Feeder") rfl), He.noat_ok (c.fact 42 (f := .noat "Feeder" "taken") rfl)⟩
    · exact ⟨He.cls_ok (c.fact 39 (f := .cls "Feeder") rfl), He.noat_ok (c.fact 43 (f := .noat "Feeder" "rest") rfl)⟩
  · simp only [tb, List.mem_cons, List.not_mem_nil, or_false] at hx
    rcases hx with rfl
    · exact ⟨He.glo_ok X G (c.fact 50 (f := .glo "Feeder") rfl), He.mkr_ok (c.fact 49 (f := .mkr "Feeder") rfl)⟩
theorem k_sum_of_bits (X : K.In h) (G : h.Ns mainGlobals mg) (c : He.SaysD fa fn K) : Z.Dk K mg tb 0 :=
  Z.dk_mk (N := N_sum_of_bits) (ps := P_sum_of_bits) (body := b_sum_of_bits) (st := s_sum_of_bits) (c.def_ 0 (d := d_sum_of_bits) rfl) rfl rfl sc_sum_of_bits (by decide) rfl m_sum_of_bits (Z.rch_fn (x := "sum_of_bits") rfl (He.glo_ok X G (c.fact 0 (f := .glo "sum_of_bits") rfl)) (by decide)) (fun _ _ _ _ _ _ us hl => match us, hl with | [_], _ => rfl)
theorem k_block (X : K.In h) (G : h.Ns mainGlobals mg) (c : He.SaysD fa fn K) : Z.Dk K mg tb 1 :=
  Z.dk_mk (N := N_block) (ps := P_block) (body := b_block) (st := s_block) (c.def_ 1 (d := d_block) rfl) rfl rfl sc_block (by decide) rfl m_block (Z.rch_fn (x := "block") rfl (He.glo_ok X G (c.fact 1 (f := .glo "block") rfl)) (by decide)) (fun _ _ _ _ _ _ us hl => match us, hl with | [_, _, _], _ => rfl)
theorem k_blocks_of (X : K.In h) (G : h.Ns mainGlobals mg) (c : He.SaysD fa fn K) : Z.Dk K mg tb 2 :=
  Z.dk_mk (N := N_blocks_of) (ps := P_blocks_of) (body := b_blocks_of) (st := s_blocks_of) (c.def_ 2 (d := d_blocks_of) rfl) rfl rfl sc_blocks_of (by decide) rfl m_blocks_of (Z.rch_fn (x := "blocks_of") rfl (He.glo_ok X G (c.fact 2 (f := .glo "blocks_of") rfl)) (by decide)) (fun _ _ _ _ _ _ us hl => match us, hl with | [_], _ => rfl)
theorem k_is_block (X : K.In h) (G : h.Ns mainGlobals mg) (c : He.SaysD fa fn K) : Z.Dk K mg tb 3 :=
  Z.dk_mk (N := N_is_block) (ps := P_is_block) (body := b_is_block) (st := s_is_block) (c.def_ 3 (d := d_is_block) rfl) rfl rfl sc_is_block (by decide) rfl m_is_block (Z.rch_fn (x := "is_block") rfl (He.glo_ok X G (c.fact 3 (f := .glo "is_block") rfl)) (by decide)) (fun _ _ _ _ _ _ us hl => match us, hl with | [_, _, _], _ => rfl)
theorem k_without_end (X : K.In h) (G : h.Ns mainGlobals mg) (c : He.SaysD fa fn K) : Z.Dk K mg tb 4 :=
  Z.dk_mk (N := N_without_end) (ps := P_without_end) (body := b_without_end) (st := s_without_end) (c.def_ 4 (d := d_without_end) rfl) rfl rfl sc_without_end (by decide) rfl m_without_end (Z.rch_fn (x := "without_end") rfl (He.glo_ok X G (c.fact 4 (f := .glo "without_end") rfl)) (by decide)) (fun _ _ _ _ _ _ us hl => match us, hl with | [_], _ => rfl)
theorem k_data_of (X : K.In h) (G : h.Ns mainGlobals mg) (c : He.SaysD fa fn K) : Z.Dk K mg tb 5 :=
  Z.dk_mk (N := N_data_of) (ps := P_data_of) (body := b_data_of) (st := s_data_of) (c.def_ 5 (d := d_data_of) rfl) rfl rfl sc_data_of (by decide) rfl m_data_of (Z.rch_fn (x := "data_of") rfl (He.glo_ok X G (c.fact 5 (f := .glo "data_of") rfl)) (by decide)) (fun _ _ _ _ _ _ us hl => match us, hl with | [_], _ => rfl)
theorem k_number_bytes (X : K.In h) (G : h.Ns mainGlobals mg) (c : He.SaysD fa fn K) : Z.Dk K mg tb 6 :=
  Z.dk_mk (N := N_number_bytes) (ps := P_number_bytes) (body := b_number_bytes) (st := s_number_bytes) (c.def_ 6 (d := d_number_bytes) rfl) rfl rfl sc_number_bytes (by decide) rfl m_number_bytes (Z.rch_fn (x := "number_bytes") rfl (He.glo_ok X G (c.fact 6 (f := .glo "number_bytes") rfl)) (by decide)) (fun _ _ _ _ _ _ us hl => match us, hl with | [_], _ => rfl)
theorem k_law_mixed (X : K.In h) (G : h.Ns mainGlobals mg) (c : He.SaysD fa fn K) : Z.Dk K mg tb 7 :=
  Z.dk_mk (N := N_law_mixed) (ps := P_law_mixed) (body := b_law_mixed) (st := s_law_mixed) (c.def_ 7 (d := d_law_mixed) rfl) rfl rfl sc_law_mixed (by decide) rfl m_law_mixed (Z.rch_fn (x := "_law_mixed") rfl (He.glo_ok X G (c.fact 7 (f := .glo "_law_mixed") rfl)) (by decide)) (fun _ _ _ _ _ _ us hl => match us, hl with | [_, _], _ => rfl)
theorem k_law_rest (X : K.In h) (G : h.Ns mainGlobals mg) (c : He.SaysD fa fn K) : Z.Dk K mg tb 8 :=
  Z.dk_mk (N := N_law_rest) (ps := P_law_rest) (body := b_law_rest) (st := s_law_rest) (c.def_ 8 (d := d_law_rest) rfl) rfl rfl sc_law_rest (by decide) rfl m_law_rest (Z.rch_fn (x := "_law_rest") rfl (He.glo_ok X G (c.fact 8 (f := .glo "_law_rest") rfl)) (by decide)) (fun _ _ _ _ _ _ us hl => match us, hl with | [_, _, _], _ => rfl)
theorem k_law_pool (X : K.In h) (G : h.Ns mainGlobals mg) (c : He.SaysD fa fn K) : Z.Dk K mg tb 9 :=
  Z.dk_mk (N := N_law_pool) (ps := P_law_pool) (body := b_law_pool) (st := s_law_pool) (c.def_ 9 (d := d_law_pool) rfl) rfl rfl sc_law_pool (by decide) rfl m_law_pool (Z.rch_fn (x := "_law_pool") rfl (He.glo_ok X G (c.fact 9 (f := .glo "_law_pool") rfl)) (by decide)) (fun _ _ _ _ _ _ us hl => match us, hl with | [_], _ => rfl)
theorem k_law_next (X : K.In h) (G : h.Ns mainGlobals mg) (c : He.SaysD fa fn K) : Z.Dk K mg tb 10 :=
  Z.dk_mk (N := N_law_next) (ps := P_law_next) (body := b_law_next) (st := s_law_next) (c.def_ 10 (d := d_law_next) rfl) rfl rfl sc_law_next (by decide) rfl m_law_next (Z.rch_fn (x := "_law_next") rfl (He.glo_ok X G (c.fact 10 (f := .glo "_law_next") rfl)) (by decide)) (fun _ _ _ _ _ _ us hl => match us, hl with | [_], _ => rfl)
theorem k_law_draw (X : K.In h) (G : h.Ns mainGlobals mg) (c : He.SaysD fa fn K) : Z.Dk K mg tb 11 :=
  Z.dk_mk (N := N_law_draw) (ps := P_law_draw) (body := b_law_draw) (st := s_law_draw) (c.def_ 11 (d := d_law_draw) rfl) rfl rfl sc_law_draw (by decide) rfl m_law_draw (Z.rch_fn (x := "_law_draw") rfl (He.glo_ok X G (c.fact 11 (f := .glo "_law_draw") rfl)) (by decide)) (fun _ _ _ _ _ _ us hl => match us, hl with | [_, _], _ => rfl)
theorem k_law_same (X : K.In h) (G : h.Ns mainGlobals mg) (c : He.SaysD fa fn K) : Z.Dk K mg tb 12 :=
  Z.dk_mk (N := N_law_same) (ps := P_law_same) (body := b_law_same) (st := s_law_same) (c.def_ 12 (d := d_law_same) rfl) rfl rfl sc_law_same (by decide) rfl m_law_same (Z.rch_fn (x := "_law_same") rfl (He.glo_ok X G (c.fact 12 (f := .glo "_law_same") rfl)) (by decide)) (fun _ _ _ _ _ _ us hl => match us, hl with | [_, _], _ => rfl)
theorem k_is_plain (X : K.In h) (G : h.Ns mainGlobals mg) (c : He.SaysD fa fn K) : Z.Dk K mg tb 13 :=
  Z.dk_mk (N := N_is_plain) (ps := P_is_plain) (body := b_is_plain) (st := s_is_plain) (c.def_ 13 (d := d_is_plain) rfl) rfl rfl sc_is_plain (by decide) rfl m_is_plain (Z.rch_fn (x := "is_plain") rfl (He.glo_ok X G (c.fact 13 (f := .glo "is_plain") rfl)) (by decide)) (fun _ _ _ _ _ _ us hl => match us, hl with | [_], _ => rfl)
theorem k_feeder_of (X : K.In h) (G : h.Ns mainGlobals mg) (c : He.SaysD fa fn K) : Z.Dk K mg tb 14 :=
  Z.dk_mk (N := N_feeder_of) (ps := P_feeder_of) (body := b_feeder_of) (st := s_feeder_of) (c.def_ 14 (d := d_feeder_of) rfl) rfl rfl sc_feeder_of (by decide) rfl m_feeder_of (Z.rch_fn (x := "feeder_of") rfl (He.glo_ok X G (c.fact 14 (f := .glo "feeder_of") rfl)) (by decide)) (fun _ _ _ _ _ _ us hl => match us, hl with | [_], _ => rfl)
theorem k_law_pick (X : K.In h) (G : h.Ns mainGlobals mg) (c : He.SaysD fa fn K) : Z.Dk K mg tb 15 :=
  Z.dk_mk (N := N_law_pick) (ps := P_law_pick) (body := b_law_pick) (st := s_law_pick) (c.def_ 15 (d := d_law_pick) rfl) rfl rfl sc_law_pick (by decide) rfl m_law_pick (Z.rch_fn (x := "_law_pick") rfl (He.glo_ok X G (c.fact 15 (f := .glo "_law_pick") rfl)) (by decide)) (fun _ _ _ _ _ _ us hl => match us, hl with | [_, _], _ => rfl)
theorem k_law_due (X : K.In h) (G : h.Ns mainGlobals mg) (c : He.SaysD fa fn K) : Z.Dk K mg tb 16 :=
  Z.dk_mk (N := N_law_due) (ps := P_law_due) (body := b_law_due) (st := s_law_due) (c.def_ 16 (d := d_law_due) rfl) rfl rfl sc_law_due (by decide) rfl m_law_due (Z.rch_fn (x := "_law_due") rfl (He.glo_ok X G (c.fact 16 (f := .glo "_law_due") rfl)) (by decide)) (fun _ _ _ _ _ _ us hl => match us, hl with | [_], _ => rfl)
theorem k_value_of (X : K.In h) (G : h.Ns mainGlobals mg) (c : He.SaysD fa fn K) : Z.Dk K mg tb 17 :=
  Z.dk_mk (N := N_value_of) (ps := P_value_of) (body := b_value_of) (st := s_value_of) (c.def_ 17 (d := d_value_of) rfl) rfl rfl sc_value_of (by decide) rfl m_value_of (Z.rch_fn (x := "value_of") rfl (He.glo_ok X G (c.fact 17 (f := .glo "value_of") rfl)) (by decide)) (fun _ _ _ _ _ _ us hl => match us, hl with | [_], _ => rfl)
theorem k_law (X : K.In h) (G : h.Ns mainGlobals mg) (c : He.SaysD fa fn K) : Z.Dk K mg tb 18 :=
  Z.dk_mk (N := N_law) (ps := P_law) (body := b_law) (st := s_law) (c.def_ 18 (d := d_law) rfl) rfl rfl sc_law (by decide) rfl m_law (Z.rch_fn (x := "law") rfl (He.glo_ok X G (c.fact 18 (f := .glo "law") rfl)) (by decide)) (fun _ _ _ _ _ _ us hl => match us, hl with | [_], _ => rfl)
theorem k_bytes_of (X : K.In h) (G : h.Ns mainGlobals mg) (c : He.SaysD fa fn K) : Z.Dk K mg tb 19 :=
  Z.dk_mk (N := N_bytes_of) (ps := P_bytes_of) (body := b_bytes_of) (st := s_bytes_of) (c.def_ 19 (d := d_bytes_of) rfl) rfl rfl sc_bytes_of (by decide) rfl m_bytes_of (Z.rch_fn (x := "bytes_of") rfl (He.glo_ok X G (c.fact 19 (f := .glo "bytes_of") rfl)) (by decide)) (fun _ _ _ _ _ _ us hl => match us, hl with | [_], _ => rfl)
theorem k_read_number (X : K.In h) (G : h.Ns mainGlobals mg) (c : He.SaysD fa fn K) : Z.Dk K mg tb 20 :=
  Z.dk_mk (N := N_read_number) (ps := P_read_number) (body := b_read_number) (st := s_read_number) (c.def_ 20 (d := d_read_number) rfl) rfl rfl sc_read_number (by decide) rfl m_read_number (Z.rch_fn (x := "read_number") rfl (He.glo_ok X G (c.fact 20 (f := .glo "read_number") rfl)) (by decide)) (fun _ _ _ _ _ _ us hl => match us, hl with | [_, _], _ => rfl)
theorem k_read_string (X : K.In h) (G : h.Ns mainGlobals mg) (c : He.SaysD fa fn K) : Z.Dk K mg tb 21 :=
  Z.dk_mk (N := N_read_string) (ps := P_read_string) (body := b_read_string) (st := s_read_string) (c.def_ 21 (d := d_read_string) rfl) rfl rfl sc_read_string (by decide) rfl m_read_string (Z.rch_fn (x := "read_string") rfl (He.glo_ok X G (c.fact 21 (f := .glo "read_string") rfl)) (by decide)) (fun _ _ _ _ _ _ us hl => match us, hl with | [_, _], _ => rfl)
theorem k_read_one (X : K.In h) (G : h.Ns mainGlobals mg) (c : He.SaysD fa fn K) : Z.Dk K mg tb 22 :=
  Z.dk_mk (N := N_read_one) (ps := P_read_one) (body := b_read_one) (st := s_read_one) (c.def_ 22 (d := d_read_one) rfl) rfl rfl sc_read_one (by decide) rfl m_read_one (Z.rch_fn (x := "read_one") rfl (He.glo_ok X G (c.fact 22 (f := .glo "read_one") rfl)) (by decide)) (fun _ _ _ _ _ _ us hl => match us, hl with | [_, _], _ => rfl)
theorem k_Feeder_init (X : K.In h) (G : h.Ns mainGlobals mg) (c : He.SaysD fa fn K) : Z.Dk K mg tb 23 :=
  Z.dk_mk (N := N_Feeder_init) (ps := P_Feeder_init) (body := b_Feeder_init) (st := s_Feeder_init) (c.def_ 23 (d := d_Feeder_init) rfl) rfl rfl sc_Feeder_init (by decide) rfl m_Feeder_init (Z.rch_ms (c := "Feeder") (m := "__init__") rfl (by decide)) (fun _ _ _ _ _ _ us hl => match us, hl with | [_], _ => rfl)
theorem k_Feeder_feed (X : K.In h) (G : h.Ns mainGlobals mg) (c : He.SaysD fa fn K) : Z.Dk K mg tb 24 :=
  Z.dk_mk (N := N_Feeder_feed) (ps := P_Feeder_feed) (body := b_Feeder_feed) (st := s_Feeder_feed) (c.def_ 24 (d := d_Feeder_feed) rfl) rfl rfl sc_Feeder_feed (by decide) rfl m_Feeder_feed (Z.rch_ms (c := "Feeder") (m := "feed") rfl (by decide)) (fun _ _ _ _ _ _ us hl => match us, hl with | [_, _], _ => rfl)
theorem k_Feeder_take (X : K.In h) (G : h.Ns mainGlobals mg) (c : He.SaysD fa fn K) : Z.Dk K mg tb 25 :=
  Z.dk_mk (N := N_Feeder_take) (ps := P_Feeder_take) (body := b_Feeder_take) (st := s_Feeder_take) (c.def_ 25 (d := d_Feeder_take) rfl) rfl rfl sc_Feeder_take (by decide) rfl m_Feeder_take (Z.rch_ms (c := "Feeder") (m := "take") rfl (by decide)) (fun _ _ _ _ _ _ us hl => match us, hl with | [_, _], _ => rfl)
theorem k_Feeder_told (X : K.In h) (G : h.Ns mainGlobals mg) (c : He.SaysD fa fn K) : Z.Dk K mg tb 26 :=
  Z.dk_mk (N := N_Feeder_told) (ps := P_Feeder_told) (body := b_Feeder_told) (st := s_Feeder_told) (c.def_ 26 (d := d_Feeder_told) rfl) rfl rfl sc_Feeder_told (by decide) rfl m_Feeder_told (Z.rch_ms (c := "Feeder") (m := "told") rfl (by decide)) (fun _ _ _ _ _ _ us hl => match us, hl with | [_], _ => rfl)
theorem k_Feeder_data (X : K.In h) (G : h.Ns mainGlobals mg) (c : He.SaysD fa fn K) : Z.Dk K mg tb 27 :=
  Z.dk_mk (N := N_Feeder_data) (ps := P_Feeder_data) (body := b_Feeder_data) (st := s_Feeder_data) (c.def_ 27 (d := d_Feeder_data) rfl) rfl rfl sc_Feeder_data (by decide) rfl m_Feeder_data (Z.rch_ms (c := "Feeder") (m := "data") rfl (by decide)) (fun _ _ _ _ _ _ us hl => match us, hl with | [_], _ => rfl)
theorem h_d (X : K.In h) (G : h.Ns mainGlobals mg) (c : He.SaysD fa fn K) : ∀ (f n : Nat), tb.np[f]? = some n → Z.Dk K mg tb f
  | 0, _, _ => k_sum_of_bits X G c
  | 1, _, _ => k_block X G c
  | 2, _, _ => k_blocks_of X G c
  | 3, _, _ => k_is_block X G c
  | 4, _, _ => k_without_end X G c
  | 5, _, _ => k_data_of X G c
  | 6, _, _ => k_number_bytes X G c
  | 7, _, _ => k_law_mixed X G c
  | 8, _, _ => k_law_rest X G c
  | 9, _, _ => k_law_pool X G c
  | 10, _, _ => k_law_next X G c
  | 11, _, _ => k_law_draw X G c
  | 12, _, _ => k_law_same X G c
  | 13, _, _ => k_is_plain X G c
  | 14, _, _ => k_feeder_of X G c
  | 15, _, _ => k_law_pick X G c
  | 16, _, _ => k_law_due X G c
  | 17, _, _ => k_value_of X G c
  | 18, _, _ => k_law X G c
  | 19, _, _ => k_bytes_of X G c
  | 20, _, _ => k_read_number X G c
  | 21, _, _ => k_read_string X G c
  | 22, _, _ => k_read_one X G c
  | 23, _, _ => k_Feeder_init X G c
  | 24, _, _ => k_Feeder_feed X G c
  | 25, _, _ => k_Feeder_take X G c
  | 26, _, _ => k_Feeder_told X G c
  | 27, _, _ => k_Feeder_data X G c
  | n + 28, x, e => by
    have z : tb.np[n + 28]? = none := List.getElem?_eq_none (by show 28 ≤ n + 28; omega)
    rw [z] at e
    cases e
end
theorem facts {P : Program} {w : World} {K : PySem.W.Frag} {h : Heap} {mg : Str → Option Value} {f : Addr} (X : K.In h) (G : h.Ns mainGlobals mg) (hfa : mg ("law" : Str) = some (.ref f)) (c : He.SaysD fa fn K) :
    ∃ fd : FuncData, (∀ (s : Shared) (v : Value), BindsTo s fd ⟨[v], []⟩ [("script", v)]) ∧ ∀ base : Heap, K.In base → base.Ns mainGlobals mg → FnOk P w K mg base CX0 40 f fd ["script"] (Z.spF K 1 (Z.run tb.T 20 i_law)) := by
  obtain ⟨fd, F⟩ := c.def_ i_law (d := d_law) rfl
  have e := hfa.symm.trans (He.glo_ok X G (c.fact i_law (f := .glo "law") rfl))
  cases e
  have b := FunD.bindsA (ps := ["script"]) F fun _ _ _ _ _ _ us hl => match us, hl with | [_], _ => rfl
  refine ⟨fd, fun s v => b s [v] rfl, fun base KB GB => ?_⟩
  have hk := Z.all_ok (P := P) (w := w) (base := base) (h_cl X G c) (h_nb X G c) (h_gc X G c) (h_d X G c) 19
  have hr : Z.run tb.T 20 i_law = Z.runD (Z.run tb.T 19) N_law.length b_law := rfl
  rw [hr]
  exact Z.def_ok (k := 19) (ps := P_law) (Z.fun_ofD F) sc_law (by decide) rfl m_law (h_cl X G c) (h_nb X G c) (h_gc X G c) hk
end K48
open PySem PySem.W PySem.Calls PyProof.Rows
set_option maxHeartbeats 0 in
theorem PySem.Challenge.cw_playproof_k48_whole_files_fed_in_pieces_holds : PySem.Challenge.rw_playproof_k48_whole_files_fed_in_pieces.Holds := by
  w_on; o_law
  refine HandSHeadRun.head_any (r := OpenLaw.row PySem.Challenge.rw_playproof_k48_whole_files_fed_in_pieces) (q := view (OpenLaw.row PySem.Challenge.rw_playproof_k48_whole_files_fed_in_pieces).prog [33]) (H := K48.hk) (ob := K48.ob) (M := 2000) (loose := K48.loose) (d := HandSHeadRun.topDef (OpenLaw.row PySem.Challenge.rw_playproof_k48_whole_files_fed_in_pieces).prog 33) (kwd := []) K48.ob_eq
    (by kernel_rfl) (fun s => by kernel_rfl) K48.runH (by kernel_rfl) (by kernel_rfl) (by kernel_rfl) (by rfl) (by first | assumption | decide +kernel) (by decide +kernel) ⟨rfl, rfl, rfl, rfl, rfl, by decide +kernel⟩ ?hw ?hc
  case hw => w_witness2
  case hc =>
    refine L2.walk_ofE (l := PySem.Challenge.rw_playproof_k48_whole_files_fed_in_pieces) (n := 63) (k := 40) (x := "script") (CX := L2.CX0) rfl (by decide) (by kernel_rfl) ⟨rfl, by decide, by decide⟩ ?F (fun _ _ _ _ z => z)
    intro w mg fa h Y G hmg0
    obtain ⟨K, KX, c⟩ := Y
    have hmg : mg ("law" : PySem.Str) = some (.ref fa) := by
      have e : (HandSHeadRun.topDef (OpenLaw.row PySem.Challenge.rw_playproof_k48_whole_files_fed_in_pieces).prog 33).name = ("law" : PySem.Str) := by kernel_rfl
      rw [← e]
      exact hmg0
    obtain ⟨fd, hb, hF⟩ := K48.facts (P := (PySem.Challenge.rw_playproof_k48_whole_files_fed_in_pieces).prog) (w := w) KX G hmg c
    exact ⟨K, fd, Z.spF K 1 (Z.run K48.tb.T 20 K48.i_law), KX, hb, fun H a ns hl _ hS => Z.law_sp (K48.law_true ns hl) hS, hF⟩
