import PyProof.Rows.All
import Wide.All
import OpenK.AllK
import Wide.FinOn
import HandS.ForMost
import HandS.Defaults
import HandS.Style
import HandS.Flow
import HandS.IsInst
import HandS.Replace
import HandS.Walk
import HandS.WordsExc
import HandS.EndBits
import HandS.Wide
import HandS.Zip
import HandS.HeadHook2
import HandS.Head2
import HandS.TryOnly
import KE.DatumOrd
import KE.SortData
import HandS.HotCalls
import HandS.CallSlots
import KE.KUnpackStar
import HandS.ExcInit
import HandS.ExcField
import HandS.ExcOwn
import HandS.TryMany
import KE.KExcIs
import HandS.RaiseMore
import HandS.Text
import HandS.Set
import HandS.SetFor
import KE.GoesEnumKw
import HandS.Conv
import HandS.Deep
import HandS.More
import HandS.SetBool
import HandS.FStr
import HandS.NoneIn
import KE.KIntText
import PyProof.Rows.StrIntSpec
import PySem.Challenge.RW_pourkeep_k05_whole_plain_rows
import HandS.Head0
import HandS.Head1
import HandS.HeadEnd
import HandS.HeadHook1
set_option Elab.async false
set_option linter.all false
set_option maxRecDepth 100000
set_option maxHeartbeats 0
/-! A small language of our own for the program's and the laws' defs, and what a def of it does: by what is wanted behind it. -/
namespace Pk
/-- a dict's key -/
inductive Ky where
  | i (n : Int) | s (x : List Nat)
  deriving DecidableEq
/-- data: un is a name without a value; lists, dicts, instances that nobody changes any more are trees; ref: one that may be changed -/
inductive D where
  | un | non | bl (b : Bool) | int (i : Int) | str (s : List Nat)
  | tup (ds : List D) | lst (ds : List D) | dct (kvs : List (Ky × D))
  | obj (c : Nat) (fs : List (Nat × D)) | ref (a : Nat) | st (a : Nat) | fn (f : Nat) | scr (ns : List Int)
  | exn (c : Nat) (fs : List (Nat × D))
inductive Ob where
  | lst (ds : List D) | dct (kvs : List (Ky × D)) | ins (c : Nat) (fs : List (Nat × D))
abbrev Mu := Nat → Option Ob
def mup (m : Mu) (a : Nat) (o : Option Ob) : Mu := fun b => if b = a then o else m b
structure Ex where
  c : Nat
  fs : List (Nat × D)
abbrev Env := List D
abbrev Pq := D → Mu → Prop
abbrev Px := Ex → Mu → Prop
abbrev Fn := List D → Mu → Pq → Px → Prop
/-- the defs; true: nothing is being handled -/
abbrev Fs := Bool → Nat → Fn
abbrev PxE := Ex → Env → Mu → Prop
def PxE.at (p : PxE) (σ : Env) : Px := fun x m => p x σ m
def pF : PxE := fun _ _ _ => False
def NoX : Px := fun _ _ => False
inductive O2 where
  | add | sub | mul | fdiv | mod | pow | shl | shr | band | bor
  deriving DecidableEq
inductive C2 where
  | eq | ne | lt | le | gt | ge | mem | nmem | is | isn
  deriving DecidableEq
inductive Bi where
  | len | abs | min | max | sum | all | any | sorted | list | tuple | str | int | ord
  deriving DecidableEq
inductive Sm where
  | join | split | index | upper
  deriving DecidableEq
/-- methods of boxes and lists -/
inductive Mt where
  | pop | popAt | insert | extend | reverse | clear | index
  deriving DecidableEq
inductive Ty where
  | int | bool | str | tuple | list
  deriving DecidableEq
/-- a parameter's default -/
inductive Cn where
  | non | bl (b : Bool) | int (i : Int) | str (s : List Nat)
  deriving DecidableEq
def Cn.d : Cn → D
  | .non => .non
  | .bl b => .bl b
  | .int i => .int i
  | .str s => .str s
/-- a constant of the module -/
inductive Gc where
  | cn (c : Cn) | tup (cs : List Cn)
  deriving DecidableEq
def Gc.d : Gc → D
  | .cn c => c.d
  | .tup cs => .tup (cs.map Cn.d)
/-- constants of the module, by their numbers -/
def gcGv (cs : List (Nat × Gc)) (g : Nat) : D := ((cs.lookup g).map Gc.d).getD .non
mutual
inductive Pt where
  | nm (i : Nat) | tp (ps : Pts) | tl (ps : Pts)
inductive Pts where
  | nil | cons (p : Pt) (r : Pts)
end
mutual
inductive E where
  | var (i : Nat) | non | bl (b : Bool) | int (i : Int) | str (s : List Nat) | glob (g : Nat)
  | op2 (o : O2) (a b : E) | neg (a : E)
  | cmp (c : C2) (a b : E) | chain (c d : C2) (a b e : E)
  | and (a b : E) | or (a b : E) | not (a : E) | ife (t a b : E)
  | tup (es : Es) | lst (es : Es)
  | ix (a b : E) | slc (a : E) (lo hi : Eo) | rev (a : E)
  | call (f : Nat) (es : Es) | calld (f : Nat) (es : Es) (cs : List Cn)
  | bi (f : Bi) (es : Es)
  | sm (f : Sm) (a e : E) | up (a : E) | cntT (a : E)
  | isi (a : E) (ts : List Ty)
  | comp (own : List Nat) (elt : E) (p : Pt) (it : It) (c : Eo)
  | sset (f : Bool) (e : E)
  | xfld (i f : Nat) | xis (i c : Nat) | callx (f i : Nat)
  | fst (es : Es)
  | mth (f : Mt) (a : E) (es : Es) | lrg (a : E) | inD (neg : Bool) (a b : E)
  | comp2 (own own1 : List Nat) (elt : E) (p : Pt) (it : It) (c : Eo) (p1 : Pt) (it1 : It) (c1 : Eo)
  | bx (e : E)
  | ssc (f ki : Bool) (own : List Nat) (elt : E) (p : Pt) (it : It) (c : Eo)
  | fld (a : E) (f : Nat) | meth (f c : Nat) (a : E) (es : Es) (cs : List Cn) | make (f : Nat) (es : Es)
inductive Es where
  | nil | cons (e : E) (r : Es)
inductive Eo where
  | none | some (e : E)
inductive It where
  | seq (e : E) | rng (a : E) | rng2 (a b : E) | enm (e : E) | zip (a b : E) | en1 (e : E)
end
mutual
inductive S where
  | asg (p : Pt) (e : E) | box (i : Nat) (e : E) | aug (i : Nat) (o : O2) (e : E) | ex (e : E)
  | ite (t : E) (a b : Ss) | forr (p : Pt) (it : It) (b : Ss) | whil (t : E) (b : Ss)
  | ret (e : E) | ret0 | pass
  | app (a e : E) | frz (i : Nat) | par (i j : Nat) (a b : E) | asgc (i : Nat) (e : E)
  | raise (c : Nat) (fo : Option Nat) (es : Es) | tryx (b : Ss) (h : Hs)
  | star (is : List Nat) (r : Nat) (e : E) | unl (is : List Nat) (e : E)
  | seti (a i e : E) | swp (v i j : Nat)
inductive Ss where
  | nil | cons (s : S) (r : Ss)
/-- except clauses: the class, the name's slot, the suite -/
inductive Hs where
  | nil | cons (c : Nat) (i : Option Nat) (b : Ss) (r : Hs)
end
/-- a def: how many parameters, how many names, its body; or the law's own draws -/
inductive FD where
  | df (np nn : Nat) (body : Ss)
  | start | draw
  /-- an own class's __init__: the class, the fields that it sets -/
  | ini (c np nn : Nat) (fs : List (Nat × E))
abbrev Tb := Nat → Option FD

/-! ### operations on data -/
def line : Nat := 16777216
def sltB : List Nat → List Nat → Bool
  | [], [] => false
  | [], _ :: _ => true
  | _ :: _, [] => false
  | a :: s, b :: t => decide (a < b) || (decide (a = b) && sltB s t)
mutual
/-- == of data -/
def eqD : D → D → Bool
  | .non, .non => true
  | .bl a, .bl b => a == b
  | .int a, .int b => a == b
  | .bl a, .int b => (if a then 1 else 0) == b
  | .int a, .bl b => a == (if b then 1 else 0)
  | .str a, .str b => a == b
  | .tup a, .tup b => eqL a b
  | .lst a, .lst b => eqL a b
  | _, _ => false
def eqL : List D → List D → Bool
  | [], [] => true
  | a :: s, b :: t => eqD a b && eqL s t
  | _, _ => false
end
mutual
/-- data that == may be asked of: no refs, no dicts; n: how deep at most -/
def flatD : Nat → D → Bool
  | _, .non => true
  | _, .bl _ => true
  | _, .int _ => true
  | _, .str s => s.all (· < 1114112)
  | n + 1, .tup ds => flatL n ds
  | n + 1, .lst ds => flatL n ds
  | _, _ => false
def flatL : Nat → List D → Bool
  | _, [] => true
  | n, d :: ds => flatD n d && flatL n ds
end
/-- what is read at a place: a box's list -/
def rd (m : Mu) : D → D
  | .ref a => match m a with
    | some (.lst ds) => .lst ds
    | some (.dct kvs) => .dct kvs
    | _ => .ref a
  | d => d
def seqD : D → Option (List D)
  | .tup ds => some ds
  | .lst ds => some ds
  | _ => none
def opR (o : O2) (x y : D) (Q : D → Prop) : Prop := match o, x, y with
  | .add, .int i, .int j => Q (.int (i + j))
  | .sub, .int i, .int j => Q (.int (i - j))
  | .mul, .int i, .int j => ((-(2 ^ 64) < i ∧ i < 2 ^ 64) ∨ (-(2 ^ 64) < j ∧ j < 2 ^ 64)) ∧ Q (.int (i * j))
  | .mul, .str s, .int j => (0 ≤ j ∧ j ≤ line ∧ s.length * j.toNat ≤ line) ∧ Q (.str (List.replicate j.toNat s).flatten)
  | .mul, .lst s, .int j => (0 ≤ j ∧ j ≤ line ∧ s.length * j.toNat ≤ line) ∧ Q (.lst (List.replicate j.toNat s).flatten)
  | .fdiv, .int i, .int j => (0 < j ∧ j < 1073741824) ∧ Q (.int (i / j))
  | .mod, .int i, .int j => 0 < j ∧ Q (.int (i % j))
  | .pow, .int i, .int j => (0 ≤ j ∧ j ≤ 1000000 ∧ i.natAbs < 2 ^ 64) ∧ Q (.int (i ^ j.toNat))
  | .shl, .int i, .int j => (0 ≤ j ∧ j ≤ 1000000 ∧ i.natAbs < 2 ^ 64) ∧ Q (.int (i * 2 ^ j.toNat))
  | .shr, .int i, .int j => 0 ≤ j ∧ Q (.int (i / 2 ^ j.toNat))
  | .band, .int i, .int j => Q (.int (PySem.Builtin.bitAnd i j))
  | .bor, .int i, .int j => Q (.int (PySem.Builtin.bitOr i j))
  | .add, .str s, .str t => s.length + t.length ≤ line ∧ Q (.str (s ++ t))
  | .add, .lst s, .lst t => s.length + t.length ≤ line ∧ Q (.lst (s ++ t))
  | .add, .tup s, .tup t => (s ≠ [] ∧ s.length + t.length ≤ line) ∧ Q (.tup (s ++ t))
  | _, _, _ => False
def isUn : D → Bool
  | .un => true
  | .exn _ _ => true
  | _ => false
/-- no list, no tuple -/
def scaD : D → Bool
  | .non => true
  | .bl _ => true
  | .int _ => true
  | .str _ => true
  | _ => false
def memD (x : D) (ds : List D) : Bool := ds.any fun y => eqD y x
/-- a slice -/
def cutG {α : Type} (xs : List α) (lo hi : Option Int) : List α := (xs.drop (HT.sIx xs.length 0 lo)).take (HT.sIx xs.length xs.length hi - HT.sIx xs.length 0 lo)
/-- what == may be asked of without a look within -/
def scalD : D → D → Bool
  | .non, .non => true | .non, .int _ => true | .int _, .non => true | .non, .bl _ => true | .bl _, .non => true | .non, .str _ => true | .str _, .non => true
  | .int _, .int _ => true | .bl _, .bl _ => true | .str _, .str _ => true
  | .int _, .str _ => true | .str _, .int _ => true | .bl _, .str _ => true | .str _, .bl _ => true
  | _, _ => false
def cmpR (c : C2) (x y : D) (Q : Bool → Prop) : Prop := match c, x, y with
  | .eq, x, y => (scalD x y = true ∨ (flatD 40 x = true ∧ flatD 40 y = true)) ∧ Q (eqD x y)
  | .ne, x, y => (scalD x y = true ∨ (flatD 40 x = true ∧ flatD 40 y = true)) ∧ Q (!eqD x y)
  | .lt, .int i, .int j => Q (decide (i < j))
  | .le, .int i, .int j => Q (decide (i ≤ j))
  | .gt, .int i, .int j => Q (decide (j < i))
  | .ge, .int i, .int j => Q (decide (j ≤ i))
  | .lt, .str s, .str t => Q (sltB s t)
  | .le, .str s, .str t => Q (!sltB t s)
  | .gt, .str s, .str t => Q (sltB t s)
  | .ge, .str s, .str t => Q (!sltB s t)
  | .is, x, .non => Q (match x with | .non => true | _ => false)
  | .isn, x, .non => Q (match x with | .non => false | _ => true)
  | .is, .bl a, .bl b => Q (a == b)
  | .isn, .bl a, .bl b => Q (a != b)
  | .mem, .str [a], .str t => Q (decide (a ∈ t))
  | .nmem, .str [a], .str t => Q (!decide (a ∈ t))
  | .mem, x, .lst ds => (scaD x = true ∧ ds.all scaD = true) ∧ Q (memD x ds)
  | .mem, x, .tup ds => (scaD x = true ∧ ds.all scaD = true) ∧ Q (memD x ds)
  | .nmem, x, .lst ds => (scaD x = true ∧ ds.all scaD = true) ∧ Q (!memD x ds)
  | .nmem, x, .tup ds => (scaD x = true ∧ ds.all scaD = true) ∧ Q (!memD x ds)
  | _, _, _ => False
def truD : D → Option Bool
  | .non => some false
  | .bl b => some b
  | .int i => some (i != 0)
  | .str s => if s.length ≤ line then some (!s.isEmpty) else none
  | .tup ds => some (!ds.isEmpty)
  | .lst ds => some (!ds.isEmpty)
  | _ => none
def isTy : D → Ty → Bool
  | .int _, .int => true
  | .bl _, .int => true
  | .bl _, .bool => true
  | .str _, .str => true
  | .tup _, .tuple => true
  | .lst _, .list => true
  | _, _ => false
def ixR (x i : D) (Q : D → Prop) : Prop := match x, i with
  | .lst ds, .int i => ∃ d, L2.atI ds i = some d ∧ Q d
  | .tup ds, .int i => ∃ d, L2.atI ds i = some d ∧ Q d
  | .str s, .int i => ∃ c, L2.atI s i = some c ∧ s.length ≤ line ∧ Q (.str [c])
  | _, _ => False
end Pk
namespace Pk
/-! ### what a def does: by what is wanted behind it -/
def Gd (gs : List (Nat × List D)) (m : Mu) : Prop := ∀ p ∈ gs, m p.1 = some (.lst p.2)
/-- a box that is walked -/
def gsR (m : Mu) : D → List (Nat × List D)
  | .ref a => (match m a with
    | some (.lst ds) => [(a, ds)]
    | _ => [])
  | _ => []
/-- built-ins that walk: only where nothing is being handled -/
def biCalm : Bi → Bool
  | .len => false | .abs => false | .str => false | .int => false | .ord => false
  | _ => true
def ptB : Pt → Bool → Bool
  | .nm _, _ => true
  | _, c => c
mutual
def bindP : Pt → D → Env → Option Env
  | .nm i, d, σ => some (σ.set i d)
  | .tp ps, .tup ds, σ => bindPs ps ds σ
  | .tl ps, .lst ds, σ => bindPs ps ds σ
  | .tp _, _, _ => none
  | .tl _, _, _ => none
def bindPs : Pts → List D → Env → Option Env
  | .nil, [], σ => some σ
  | .cons p r, d :: ds, σ => match bindP p d σ with
    | some σ' => bindPs r ds σ'
    | none => none
  | .nil, _ :: _, _ => none
  | .cons _ _, [], _ => none
end
def wipeE (σ : Env) : List Nat → Env
  | [] => σ
  | v :: vs => (wipeE σ vs).set v .un
/-- a comprehension's turns -/
def compL (gs : List (Nat × List D)) (p : Pt) (body : Env → Mu → (Option D → Mu → Prop) → Prop) (σ : Env) : List D → Mu → List D → (List D → Mu → Prop) → Prop
  | [], m, acc, Q => Gd gs m ∧ Q acc m
  | d :: ds, m, acc, Q => Gd gs m ∧ ∃ σ', bindP p d σ = some σ' ∧ body σ' m fun r m' => compL gs p body σ ds m' (match r with
    | some v => acc ++ [v]
    | none => acc) Q
/-- .. what is told so far in hand -/
def compB (gs : List (Nat × List D)) (p : Pt) (body : Env → Mu → List D → (List D → Mu → Prop) → Prop) (σ : Env) : List D → Mu → List D → (List D → Mu → Prop) → Prop
  | [], m, acc, Q => Gd gs m ∧ Q acc m
  | d :: ds, m, acc, Q => Gd gs m ∧ ∃ σ', bindP p d σ = some σ' ∧ body σ' m acc fun acc' m' => compB gs p body σ ds m' acc' Q
structure Kt where
  nx : Env → Mu → Prop
  rt : D → Mu → Prop
  xx : Ex → Env → Mu → Prop
/-- a for's turns -/
def forL (gs : List (Nat × List D)) (p : Pt) (body : Env → Mu → Kt → Prop) : List D → Env → Mu → Kt → Prop
  | [], σ, m, K => Gd gs m ∧ K.nx σ m
  | d :: ds, σ, m, K => Gd gs m ∧ ∃ σ', bindP p d σ = some σ' ∧ body σ' m { K with nx := fun σ2 m2 => forL gs p body ds σ2 m2 K }
def whileN (test : Env → Mu → (Bool → Mu → Prop) → Prop) (body : Env → Mu → Kt → Prop) : Nat → Env → Mu → Kt → Prop
  | 0, _, _, _ => False
  | n + 1, σ, m, K => test σ m fun b m1 => if b = true then body σ m1 { K with nx := fun σ2 m2 => whileN test body n σ2 m2 K } else K.nx σ m1
def slcR (x : D) (lo hi : Option Int) (Q : D → Prop) : Prop := match x with
  | .lst ds => Q (.lst (cutG ds lo hi))
  | .str s => s.length ≤ line ∧ Q (.str (cutG s lo hi))
  | .tup ds => ¬ (HT.sIx ds.length 0 lo = 0 ∧ HT.sIx ds.length ds.length hi = ds.length) ∧ Q (.tup (cutG ds lo hi))
  | _ => False
def intsD : List D → Option (List Int)
  | [] => some []
  | .int i :: r => match intsD r with
    | some is => some (i :: is)
    | none => none
  | _ => none
def blsD : List D → Option (List Bool)
  | [] => some []
  | .bl i :: r => match blsD r with
    | some is => some (i :: is)
    | none => none
  | _ => none
def strsD : List D → Option (List (List Nat))
  | [] => some []
  | .str i :: r => match strsD r with
    | some is => some (i :: is)
    | none => none
  | _ => none
/-- what rows are sorted by: a text and a number, a number, a number and a text -/
inductive Sh where
  | si | i | is
  deriving DecidableEq
def rowD : Sh → D → Option (List Ky)
  | .si, .tup (.str k :: .int n :: _) => some [.s k, .i n]
  | .i, .tup (.int n :: _) => some [.i n]
  | .is, .tup (.int n :: .str k :: _) => some [.i n, .s k]
  | _, _ => none
def rowsD (sh : Sh) : List D → Option (List (List Ky))
  | [] => some []
  | d :: r => match rowD sh d, rowsD sh r with
    | some k, some ks => some (k :: ks)
    | _, _ => none
def kyLt : List Ky → List Ky → Bool
  | .i a :: r, .i b :: s => decide (a < b) || (decide (a = b) && kyLt r s)
  | .s a :: r, .s b :: s => sltB a b || (decide (a = b) && kyLt r s)
  | _, _ => false
def rowLt (sh : Sh) (a b : D) : Bool := match rowD sh a, rowD sh b with
  | some x, some y => kyLt x y
  | _, _ => false
def joinS (sep : List Nat) : List (List Nat) → List Nat
  | [] => []
  | [x] => x
  | x :: y :: r => x ++ sep ++ joinS sep (y :: r)
def joinLen (n : Nat) : List (List Nat) → Nat
  | [] => 0
  | x :: r => x.length + n + joinLen n r
def minS : List Nat → List (List Nat) → List Nat
  | m, [] => m
  | m, x :: r => minS (if sltB x m then x else m) r
def maxS : List Nat → List (List Nat) → List Nat
  | m, [] => m
  | m, x :: r => maxS (if sltB m x then x else m) r
/-- a number as a text -/
def intS (i : Int) : List Nat := (PySem.Str.ofString (toString i)).cps.toList
/-- a value in an f-string -/
def fmtD : D → Option (List Nat)
  | .str s => some s
  | .int i => if i.natAbs.log2 < 1920 then some (intS i) else none
  | _ => none
def splitS (s b : List Nat) : List (List Nat) := (PySem.Txt.split ⟨s.toArray⟩ ⟨b.toArray⟩).map fun x => x.cps.toList
/-- names set, one behind the other -/
def setAll (σ : Env) : List Nat → List D → Env
  | i :: is, d :: ds => setAll (σ.set i d) is ds
  | _, _ => σ
def biR (f : Bi) (m : Mu) (vs : List D) (Q : D → Prop) : Prop := match f, vs with
  | .len, [.str s] => s.length ≤ line ∧ Q (.int s.length)
  | .len, [x] => (match rd m x with
    | .lst ds => Q (.int ds.length)
    | .tup ds => Q (.int ds.length)
    | .dct ks => Q (.int ks.length)
    | _ => False)
  | .abs, [.int i] => Q (.int (if i < 0 then -i else i))
  | .max, [.int i, .int j] => Q (.int (if j > i then j else i))
  | .min, [.int i, .int j] => Q (.int (if j < i then j else i))
  | .max, [.str a, .str b] => Q (.str (if sltB a b then b else a))
  | .min, [.str a, .str b] => Q (.str (if sltB b a then b else a))
  | .sum, [x] => (match rd m x with
    | .lst ds => ∃ is, intsD ds = some is ∧ Q (.int is.sum)
    | _ => False)
  | .all, [x] => (match rd m x with
    | .lst ds => ∃ bs, blsD ds = some bs ∧ Q (.bl (bs.all id))
    | _ => False)
  | .any, [x] => (match rd m x with
    | .lst ds => ∃ bs, blsD ds = some bs ∧ Q (.bl (bs.any id))
    | _ => False)
  | .list, [x] => (match rd m x with
    | .lst ds => Q (.lst ds)
    | .tup ds => Q (.lst ds)
    | _ => False)
  | .tuple, [x] => (match rd m x with
    | .lst ds => Q (.tup ds)
    | .tup ds => Q (.tup ds)
    | _ => False)
  | .max, [x] => (match rd m x with
    | .lst ds => (∃ is, intsD ds = some is ∧ is ≠ [] ∧ ∀ k ∈ is, (∀ j ∈ is, j ≤ k) → Q (.int k)) ∨ (∃ s ss, strsD ds = some (s :: ss) ∧ Q (.str (maxS s ss)))
    | _ => False)
  | .min, [x] => (match rd m x with
    | .lst ds => (∃ is, intsD ds = some is ∧ is ≠ [] ∧ ∀ k ∈ is, (∀ j ∈ is, k ≤ j) → Q (.int k)) ∨ (∃ s ss, strsD ds = some (s :: ss) ∧ Q (.str (minS s ss)))
    | _ => False)
  | .sorted, [x] => (match rd m x with
    | .lst ds => ∃ sh ks, rowsD sh ds = some ks ∧ ks.Nodup ∧ ∀ out : List D, out.Perm ds → out.Pairwise (fun a b => rowLt sh a b = true) → Q (.lst out)
    | _ => False)
  | .ord, [.str [c]] => Q (.int c)
  | .str, [.int i] => i.natAbs.log2 < 1920 ∧ Q (.str (intS i))
  | .str, [.str s] => Q (.str s)
  | .int, [.int i] => Q (.int i)
  | .int, [.bl b] => Q (.int (if b = true then 1 else 0))
  | .int, [.str s] => ∃ n, PySem.intText? ⟨s.toArray⟩ = some n ∧ s.length ≤ 640 ∧ Q (.int n)
  | _, _ => False
def smR (f : Sm) (m : Mu) (x : D) (vs : List D) (Q : D → Prop) : Prop := match f, x, vs with
  | .join, .str sep, [y] => (match rd m y with
    | .lst ds => ∃ ss, strsD ds = some ss ∧ joinLen sep.length ss ≤ line ∧ Q (.str (joinS sep ss))
    | _ => False)
  | .split, .str s, [.str b] => (b ≠ [] ∧ s.length + 2 ≤ line) ∧ Q (.lst ((splitS s b).map .str))
  | .index, .str s, [.str t] => ∃ i rest, PySem.Builtin.Str.occurrences ⟨s.toArray⟩ ⟨t.toArray⟩ 0 s.length 1 = i :: rest ∧ Q (.int (i : Nat))
  | _, _, _ => False
/-- the first place of an item -/
def idxD (x : D) : List D → Option Nat
  | [] => none
  | y :: r => if eqD y x = true then some 0 else (idxD x r).map (· + 1)
/-- methods of lists: of boxes, those that change them -/
def mtR (f : Mt) (m : Mu) (x : D) (vs : List D) (Q : Pq) : Prop := match f, x, vs with
  | .pop, .ref p, [] => ∃ ds d, m p = some (.lst (ds ++ [d])) ∧ Q d (mup m p (some (.lst ds)))
  | .popAt, .ref p, [.int j] => ∃ ds n d, m p = some (.lst ds) ∧ (0 ≤ j ∧ j ≤ line) ∧ j.toNat = n ∧ ds[n]? = some d ∧ Q d (mup m p (some (.lst (ds.eraseIdx n))))
  | .insert, .ref p, [.int j, y] => ∃ ds, m p = some (.lst ds) ∧ (0 ≤ j ∧ j ≤ line) ∧ ds.length < line ∧ Q .non (mup m p (some (.lst (ds.take j.toNat ++ [y] ++ ds.drop j.toNat))))
  | .extend, .ref p, [y] => ∃ ds es, m p = some (.lst ds) ∧ rd m y = .lst es ∧ ds.length + es.length ≤ line ∧ Q .non (mup m p (some (.lst (ds ++ es))))
  | .reverse, .ref p, [] => ∃ ds, m p = some (.lst ds) ∧ Q .non (mup m p (some (.lst ds.reverse)))
  | .clear, .ref p, [] => ∃ ds, m p = some (.lst ds) ∧ Q .non (mup m p (some (.lst [])))
  | .index, x, [y] => ∃ ds j, rd m x = .lst ds ∧ (flatD 39 (rd m y) = true ∧ flatL 39 ds = true) ∧ idxD (rd m y) ds = some j ∧ Q (.int (j : Nat)) m
  | _, _, _ => False
/-- an int, a text -/
def kiB : Bool → D → Bool
  | true, .int _ => true
  | false, .str _ => true
  | _, _ => false
/-- sorted(set(a list)), len(set(a list)) -/
def ssR (f : Bool) (x : D) (Q : D → Prop) : Prop := match x with
  | .lst ds => ds.length < 4000 ∧ ((∃ is, intsD ds = some is ∧ ∀ out : List Int, out.Pairwise (· < ·) → (∀ x, x ∈ out ↔ x ∈ is) → Q (if f = true then .lst (out.map .int) else .int (out.length : Nat)))
    ∨ (∃ ss, strsD ds = some ss ∧ ∀ out : List (List Nat), (out.Pairwise fun a b => sltB a b = true) → (∀ x, x ∈ out ↔ x ∈ ss) → Q (if f = true then .lst (out.map .str) else .int (out.length : Nat))))
  | _ => False
/-- the program's exceptions: all are beneath the first of them (0) and beneath ValueError (100) -/
def subX (c d : Nat) : Bool := decide (c = d) || decide (d = 0) || decide (d = 100)
/-- the fields of an exception that is made of these -/
def madeR (fo : Option Nat) (ds : List D) (k : List (Nat × D) → Prop) : Prop := match fo, ds with
  | some f, [d] => k [(f, d)]
  | none, [.str _] => k []
  | _, _ => False
def upS (s : List Nat) : List Nat := (PySem.Txt.upper ⟨s.toArray⟩).cps.toList
mutual
def wpE (Φ : Fs) (gv : Nat → D) (cm : Bool) : E → Env → Mu → Pq → Px → Prop
  | .var i, σ, m, Q, _ => ∃ d, σ[i]? = some d ∧ isUn d = false ∧ Q d m
  | .non, _, m, Q, _ => Q .non m
  | .bl b, _, m, Q, _ => Q (.bl b) m
  | .int i, _, m, Q, _ => Q (.int i) m
  | .str s, _, m, Q, _ => Q (.str s) m
  | .glob g, _, m, Q, _ => Q (gv g) m
  | .op2 o a b, σ, m, Q, X => wpE Φ gv cm a σ m (fun x m1 => wpE Φ gv cm b σ m1 (fun y m2 => opR o (rd m2 x) (rd m2 y) fun d => Q d m2) X) X
  | .neg a, σ, m, Q, X => wpE Φ gv cm a σ m (fun x m1 => match x with
    | .int i => Q (.int (-i)) m1
    | _ => False) X
  | .cmp c a b, σ, m, Q, X => wpE Φ gv cm a σ m (fun x m1 => wpE Φ gv cm b σ m1 (fun y m2 => cmpR c (rd m2 x) (rd m2 y) fun k => Q (.bl k) m2) X) X
  | .chain c d a b e, σ, m, Q, X => wpE Φ gv cm a σ m (fun x m1 => wpE Φ gv cm b σ m1 (fun y m2 => cmpR c (rd m2 x) (rd m2 y) fun k =>
      if k = true then wpE Φ gv cm e σ m2 (fun z m3 => cmpR d (rd m3 y) (rd m3 z) fun k2 => Q (.bl k2) m3) X else Q (.bl false) m2) X) X
  | .and a b, σ, m, Q, X => wpE Φ gv cm a σ m (fun x m1 => ∃ k, truD (rd m1 x) = some k ∧ if k = true then wpE Φ gv cm b σ m1 Q X else Q x m1) X
  | .or a b, σ, m, Q, X => wpE Φ gv cm a σ m (fun x m1 => ∃ k, truD (rd m1 x) = some k ∧ if k = true then Q x m1 else wpE Φ gv cm b σ m1 Q X) X
  | .not a, σ, m, Q, X => wpE Φ gv cm a σ m (fun x m1 => ∃ k, truD (rd m1 x) = some k ∧ Q (.bl (!k)) m1) X
  | .ife t a b, σ, m, Q, X => wpT Φ gv cm t σ m (fun k m1 => if k = true then wpE Φ gv cm a σ m1 Q X else wpE Φ gv cm b σ m1 Q X) X
  | .tup es, σ, m, Q, X => wpEs Φ gv cm es σ m (fun ds m1 => Q (.tup ds) m1) X
  | .lst es, σ, m, Q, X => wpEs Φ gv cm es σ m (fun ds m1 => Q (.lst ds) m1) X
  | .ix a b, σ, m, Q, X => wpE Φ gv cm a σ m (fun x m1 => wpE Φ gv cm b σ m1 (fun y m2 => ixR (rd m2 x) y fun d => Q d m2) X) X
  | .slc a lo hi, σ, m, Q, X => wpE Φ gv cm a σ m (fun x m1 => wpEo Φ gv cm lo σ m1 (fun l m2 => wpEo Φ gv cm hi σ m2 (fun h m3 => slcR (rd m3 x) l h fun d => Q d m3) X) X) X
  | .rev a, σ, m, Q, X => wpE Φ gv cm a σ m (fun x m1 => match rd m1 x with
    | .lst ds => Q (.lst ds.reverse) m1
    | _ => False) X
  | .call f es, σ, m, Q, X => wpEs Φ gv cm es σ m (fun ds m1 => Φ cm f ds m1 Q X) X
  | .calld f es cs, σ, m, Q, X => wpEs Φ gv cm es σ m (fun ds m1 => Φ cm f (ds ++ cs.map Cn.d) m1 Q X) X
  | .bi f es, σ, m, Q, X => (biCalm f && !cm) = false ∧ wpEs Φ gv cm es σ m (fun ds m1 => biR f m1 ds fun d => Q d m1) X
  | .sm f a e, σ, m, Q, X => wpE Φ gv cm a σ m (fun x m1 => (match x with
    | .str _ => True
    | _ => False) ∧ wpE Φ gv cm e σ m1 (fun y m2 => smR f m2 x [y] fun d => Q d m2) X) X
  | .cntT a, σ, m, Q, X => wpE Φ gv cm a σ m (fun x m1 => ∃ ds bs, rd m1 x = .lst ds ∧ blsD ds = some bs ∧ Q (.int (bs.count true : Nat)) m1) X
  | .up a, σ, m, Q, X => wpE Φ gv cm a σ m (fun x m1 => match x with
    | .str s => s.length ≤ 5592405 ∧ Q (.str (upS s)) m1
    | _ => False) X
  | .isi a ts, σ, m, Q, X => wpE Φ gv cm a σ m (fun x m1 => match rd m1 x with
    | .non | .bl _ | .int _ | .str _ | .tup _ | .lst _ => Q (.bl (ts.any (isTy (rd m1 x)))) m1
    | _ => False) X
  | .comp own elt p it c, σ, m, Q, X => cm = true ∧ wpIt Φ gv cm it σ m (fun items gs m1 => compL gs p (fun σ2 m2 R => wpTo Φ gv cm c σ2 m2 (fun b m3 =>
      if b = true then wpE Φ gv cm elt σ2 m3 (fun d m4 => R (some d) m4) NoX else R none m3) NoX) (wipeE σ own) items m1 [] fun acc m2 => Q (.lst acc) m2) X
  | .comp2 own own1 elt p it c p1 it1 c1, σ, m, Q, X => cm = true ∧ wpIt Φ gv cm it σ m (fun items gs m1 => compB gs p (fun σ2 m2 acc R => wpTo Φ gv cm c σ2 m2 (fun b m3 =>
      if b = true then wpIt Φ gv cm it1 σ2 m3 (fun items1 gs1 m4 => compB gs1 p1 (fun σ3 m5 acc1 R1 => wpTo Φ gv cm c1 σ3 m5 (fun b1 m6 =>
        if b1 = true then wpE Φ gv cm elt σ3 m6 (fun d m7 => acc1.length < line ∧ R1 (acc1 ++ [d]) m7) NoX else R1 acc1 m6) NoX) (wipeE σ2 own1) items1 m4 acc R) NoX else R acc m3) NoX) (wipeE σ own) items m1 [] fun acc m2 => Q (.lst acc) m2) X
  | .ssc f ki own elt p it c, σ, m, Q, X => cm = true ∧ wpIt Φ gv cm it σ m (fun items gs m1 => compB gs p (fun σ2 m2 acc R => wpTo Φ gv cm c σ2 m2 (fun b m3 =>
      if b = true then wpE Φ gv cm elt σ2 m3 (fun d m4 => kiB ki d = true ∧ acc.length + 1 < 4000 ∧ R (acc ++ [d]) m4) NoX else R acc m3) NoX) (wipeE σ own) items m1 [] fun acc m2 => ssR f (.lst acc) fun d => Q d m2) X
  | .bx e, σ, m, Q, X => wpE Φ gv cm e σ m (fun d m1 => match d with
    | .lst ds => ∀ a, m1 a = none → Q (.ref a) (mup m1 a (some (.lst ds)))
    | _ => False) X
  | .sset f e, σ, m, Q, X => cm = true ∧ wpE Φ gv cm e σ m (fun x m1 => ssR f (rd m1 x) fun d => Q d m1) X
  | .xfld i f, σ, m, Q, _ => ∃ c d, σ[i]? = some (.exn c [(f, d)]) ∧ Q d m
  | .xis i c, σ, m, Q, _ => ∃ c' fs, σ[i]? = some (.exn c' fs) ∧ Q (.bl (subX c' c)) m
  | .callx f i, σ, m, Q, X => cm = false ∧ ∃ c fs, σ[i]? = some (.exn c fs) ∧ Φ false f [.exn c fs] m Q X
  | .fst es, σ, m, Q, X => wpFs Φ gv cm es [] σ m (fun s m1 => Q (.str s) m1) X
  | .mth f a es, σ, m, Q, X => wpE Φ gv cm a σ m (fun x m1 => (∃ ds, rd m1 x = .lst ds) ∧ wpEs Φ gv cm es σ m1 (fun vs m2 => mtR f m2 x vs Q) X) X
  | .lrg a, σ, m, Q, X => cm = true ∧ wpE Φ gv cm a σ m (fun x m1 => match x with
    | .int n => (0 ≤ n ∧ n ≤ line) ∧ Q (.lst ((List.range n.toNat).map fun i => .int (i : Nat))) m1
    | _ => False) X
  | .inD neg a b, σ, m, Q, X => wpE Φ gv cm a σ m (fun x m1 => wpE Φ gv cm b σ m1 (fun y m2 => ∃ ds, rd m2 y = .lst ds ∧ (flatD 39 (rd m2 x) = true ∧ flatL 39 ds = true) ∧ Q (.bl (if neg = true then !memD (rd m2 x) ds else memD (rd m2 x) ds)) m2) X) X
  | .fld a f, σ, m, Q, X => wpE Φ gv cm a σ m (fun x m1 => match x with
    | .obj _ fs => ∃ d, fs.lookup f = some d ∧ Q d m1
    | _ => False) X
  | .meth f c a es cs, σ, m, Q, X => cm = true ∧ wpE Φ gv cm a σ m (fun x m1 => (match x with
    | .obj c' _ => c' = c
    | _ => False) ∧ wpEs Φ gv cm es σ m1 (fun ds m2 => Φ cm f (x :: (ds ++ cs.map Cn.d)) m2 Q X) X) X
  | .make f es, σ, m, Q, X => cm = true ∧ wpEs Φ gv cm es σ m (fun ds m1 => Φ cm f ds m1 Q X) X
def wpT (Φ : Fs) (gv : Nat → D) (cm : Bool) : E → Env → Mu → (Bool → Mu → Prop) → Px → Prop
  | .and a b, σ, m, Q, X => wpT Φ gv cm a σ m (fun k m1 => if k = true then wpT Φ gv cm b σ m1 Q X else Q false m1) X
  | .or a b, σ, m, Q, X => wpT Φ gv cm a σ m (fun k m1 => if k = true then Q true m1 else wpT Φ gv cm b σ m1 Q X) X
  | .not a, σ, m, Q, X => wpT Φ gv cm a σ m (fun k m1 => Q (!k) m1) X
  | .cmp c a b, σ, m, Q, X => wpE Φ gv cm a σ m (fun x m1 => wpE Φ gv cm b σ m1 (fun y m2 => cmpR c (rd m2 x) (rd m2 y) fun k => Q k m2) X) X
  | .chain c d a b e, σ, m, Q, X => wpE Φ gv cm a σ m (fun x m1 => wpE Φ gv cm b σ m1 (fun y m2 => cmpR c (rd m2 x) (rd m2 y) fun k =>
      if k = true then wpE Φ gv cm e σ m2 (fun z m3 => cmpR d (rd m3 y) (rd m3 z) fun k2 => Q k2 m3) X else Q false m2) X) X
  | .ife _ _ _, _, _, _, _ => False
  | .var i, σ, m, Q, _ => ∃ d, σ[i]? = some d ∧ ∃ k, truD (rd m d) = some k ∧ Q k m
  | .ix a b, σ, m, Q, X => wpE Φ gv cm a σ m (fun x m1 => wpE Φ gv cm b σ m1 (fun y m2 => ixR (rd m2 x) y fun d => ∃ k, truD (rd m2 d) = some k ∧ Q k m2) X) X
  | .call f es, σ, m, Q, X => wpEs Φ gv cm es σ m (fun ds m1 => Φ cm f ds m1 (fun d m2 => ∃ k, truD (rd m2 d) = some k ∧ Q k m2) X) X
  | .bi f es, σ, m, Q, X => (biCalm f && !cm) = false ∧ wpEs Φ gv cm es σ m (fun ds m1 => biR f m1 ds fun d => ∃ k, truD (rd m1 d) = some k ∧ Q k m1) X
  | .isi a ts, σ, m, Q, X => wpE Φ gv cm a σ m (fun x m1 => match rd m1 x with
    | .non | .bl _ | .int _ | .str _ | .tup _ | .lst _ => ∃ k, truD (rd m1 (.bl (ts.any (isTy (rd m1 x))))) = some k ∧ Q k m1
    | _ => False) X
  | .inD neg a b, σ, m, Q, X => wpE Φ gv cm a σ m (fun x m1 => wpE Φ gv cm b σ m1 (fun y m2 => ∃ ds, rd m2 y = .lst ds ∧ (flatD 39 (rd m2 x) = true ∧ flatL 39 ds = true) ∧ Q (if neg = true then !memD (rd m2 x) ds else memD (rd m2 x) ds) m2) X) X
  | .meth f c a es cs, σ, m, Q, X => cm = true ∧ wpE Φ gv cm a σ m (fun x m1 => (match x with
    | .obj c' _ => c' = c
    | _ => False) ∧ wpEs Φ gv cm es σ m1 (fun ds m2 => Φ cm f (x :: (ds ++ cs.map Cn.d)) m2 (fun d m3 => ∃ k, truD (rd m3 d) = some k ∧ Q k m3) X) X) X
  | .xis i c, σ, m, Q, _ => ∃ c' fs, σ[i]? = some (.exn c' fs) ∧ Q (subX c' c) m
  | .callx f i, σ, m, Q, X => cm = false ∧ ∃ c fs, σ[i]? = some (.exn c fs) ∧ Φ false f [.exn c fs] m (fun d m2 => ∃ k, truD (rd m2 d) = some k ∧ Q k m2) X
  | _, _, _, _, _ => False
def wpEs (Φ : Fs) (gv : Nat → D) (cm : Bool) : Es → Env → Mu → (List D → Mu → Prop) → Px → Prop
  | .nil, _, m, Q, _ => Q [] m
  | .cons e r, σ, m, Q, X => wpE Φ gv cm e σ m (fun d m1 => wpEs Φ gv cm r σ m1 (fun ds m2 => Q (d :: ds) m2) X) X
def wpFs (Φ : Fs) (gv : Nat → D) (cm : Bool) : Es → List Nat → Env → Mu → (List Nat → Mu → Prop) → Px → Prop
  | .nil, acc, _, m, Q, _ => Q acc m
  | .cons e r, acc, σ, m, Q, X => wpE Φ gv cm e σ m (fun d m1 => ∃ t, fmtD d = some t ∧ acc.length + t.length ≤ line ∧ wpFs Φ gv cm r (acc ++ t) σ m1 Q X) X
def wpEo (Φ : Fs) (gv : Nat → D) (cm : Bool) : Eo → Env → Mu → (Option Int → Mu → Prop) → Px → Prop
  | .none, _, m, Q, _ => Q none m
  | .some e, σ, m, Q, X => wpE Φ gv cm e σ m (fun d m1 => match d with
    | .int i => Q (some i) m1
    | _ => False) X
def wpTo (Φ : Fs) (gv : Nat → D) (cm : Bool) : Eo → Env → Mu → (Bool → Mu → Prop) → Px → Prop
  | .none, _, m, Q, _ => Q true m
  | .some e, σ, m, Q, X => wpT Φ gv cm e σ m Q X
def wpIt (Φ : Fs) (gv : Nat → D) (cm : Bool) : It → Env → Mu → (List D → List (Nat × List D) → Mu → Prop) → Px → Prop
  | .seq e, σ, m, Q, X => wpE Φ gv cm e σ m (fun d m1 => match d with
    | .lst ds => Q ds [] m1
    | .tup ds => Q ds [] m1
    | .str s => s.length ≤ line ∧ Q (s.map fun c => .str [c]) [] m1
    | .ref a => ∃ ds, m1 a = some (.lst ds) ∧ Q ds [(a, ds)] m1
    | _ => False) X
  | .rng e, σ, m, Q, X => wpE Φ gv cm e σ m (fun d m1 => match d with
    | .int n => n ≤ line ∧ ¬ n < -(2 ^ 62) ∧ Q ((List.range n.toNat).map fun i => .int (i : Nat)) [] m1
    | _ => False) X
  | .rng2 e e2, σ, m, Q, X => wpE Φ gv cm e σ m (fun d m1 => wpE Φ gv cm e2 σ m1 (fun d2 m2 => match d, d2 with
    | .int a, .int b => ((-(2 ^ 60) ≤ a ∧ a ≤ 2 ^ 60) ∧ (-(2 ^ 60) ≤ b ∧ b ≤ 2 ^ 60) ∧ b - a ≤ line) ∧ Q ((List.range (b - a).toNat).map fun i => .int (a + (i : Nat))) [] m2
    | _, _ => False) X) X
  | .enm e, σ, m, Q, X => wpE Φ gv cm e σ m (fun d m1 => match d with
    | .lst ds => Q ((List.range ds.length).zipWith (fun i d => .tup [.int (i : Nat), d]) ds) [] m1
    | .tup ds => Q ((List.range ds.length).zipWith (fun i d => .tup [.int (i : Nat), d]) ds) [] m1
    | .str s => s.length ≤ line ∧ Q ((List.range s.length).zipWith (fun i d => .tup [.int (i : Nat), .str [d]]) s) [] m1
    | .ref a => ∃ ds, m1 a = some (.lst ds) ∧ Q ((List.range ds.length).zipWith (fun i d => .tup [.int (i : Nat), d]) ds) [(a, ds)] m1
    | _ => False) X
  | .en1 e, σ, m, Q, X => wpE Φ gv cm e σ m (fun d m1 => match d with
    | .lst ds => Q ((List.range ds.length).zipWith (fun i d => .tup [.int (1 + (i : Nat)), d]) ds) [] m1
    | .tup ds => Q ((List.range ds.length).zipWith (fun i d => .tup [.int (1 + (i : Nat)), d]) ds) [] m1
    | .str s => s.length ≤ line ∧ Q ((List.range s.length).zipWith (fun i d => .tup [.int (1 + (i : Nat)), .str [d]]) s) [] m1
    | _ => False) X
  | .zip e e2, σ, m, Q, X => wpE Φ gv cm e σ m (fun d m1 => wpE Φ gv cm e2 σ m1 (fun d2 m2 => match rd m2 d, rd m2 d2 with
    | .lst a, .lst b => Q (List.zipWith (fun x y => .tup [x, y]) a b) (gsR m2 d ++ gsR m2 d2) m2
    | .tup a, .tup b => Q (List.zipWith (fun x y => .tup [x, y]) a b) [] m2
    | _, _ => False) X) X
end
mutual
def wpS (Φ : Fs) (gv : Nat → D) (cm : Bool) : S → Env → Mu → Kt → Prop
  | .asg p e, σ, m, K => ptB p cm = true ∧ wpE Φ gv cm e σ m (fun d m1 => ∃ σ', bindP p d σ = some σ' ∧ K.nx σ' m1) fun x m1 => K.xx x σ m1
  | .box i e, σ, m, K => wpE Φ gv cm e σ m (fun d m1 => match d with
    | .lst ds => ∀ a, m1 a = none → K.nx (σ.set i (.ref a)) (mup m1 a (some (.lst ds)))
    | _ => False) fun x m1 => K.xx x σ m1
  | .aug i o e, σ, m, K => ∃ a, σ[i]? = some (.int a) ∧ wpE Φ gv cm e σ m (fun y m1 => match y with
    | .int b => opR o (.int a) (.int b) fun d => K.nx (σ.set i d) m1
    | _ => False) fun x m1 => K.xx x σ m1
  | .ex e, σ, m, K => wpE Φ gv cm e σ m (fun _ m1 => K.nx σ m1) fun x m1 => K.xx x σ m1
  | .ite t a b, σ, m, K => wpT Φ gv cm t σ m (fun k m1 => if k = true then wpSs Φ gv cm a σ m1 K else wpSs Φ gv cm b σ m1 K) fun x m1 => K.xx x σ m1
  | .forr p it b, σ, m, K => cm = true ∧ wpIt Φ gv cm it σ m (fun items gs m1 => forL gs p (wpSs Φ gv cm b) items σ m1 K) fun x m1 => K.xx x σ m1
  | .whil t b, σ, m, K => ∃ n, n ≤ line ∧ whileN (fun σ2 m2 Q => wpT Φ gv cm t σ2 m2 Q fun x m1 => K.xx x σ2 m1) (wpSs Φ gv cm b) n σ m K
  | .ret e, σ, m, K => wpE Φ gv cm e σ m (fun d m1 => K.rt d m1) fun x m1 => K.xx x σ m1
  | .ret0, _, m, K => K.rt .non m
  | .pass, σ, m, K => K.nx σ m
  | .app a e, σ, m, K => wpE Φ gv cm a σ m (fun x m1 => (match x with
    | .ref p => ∃ ds, m1 p = some (.lst ds)
    | _ => False) ∧ wpE Φ gv cm e σ m1 (fun y m2 => match x with
    | .ref p => ∃ ds, m2 p = some (.lst ds) ∧ ds.length < line ∧ K.nx σ (mup m2 p (some (.lst (ds ++ [y]))))
    | _ => False) fun x m1 => K.xx x σ m1) fun x m1 => K.xx x σ m1
  | .asgc i e, σ, m, K => wpE Φ gv cm e σ m (fun d m1 => K.nx (σ.set i d) m1) fun x m1 => K.xx x σ m1
  | .par i j a b, σ, m, K => cm = true ∧ wpE Φ gv cm a σ m (fun x m1 => wpE Φ gv cm b σ m1 (fun y m2 => K.nx ((σ.set i x).set j y) m2) fun x m1 => K.xx x σ m1) fun x m1 => K.xx x σ m1
  | .frz i, σ, m, K => match σ[i]? with
    | some (.ref a) => (match m a with
      | some (.lst ds) => K.nx (σ.set i (.lst ds)) (mup m a none)
      | _ => False)
    | _ => K.nx σ m
  | .raise c fo es, σ, m, K => cm = true ∧ wpEs Φ gv cm es σ m (fun ds m1 => madeR fo ds fun fs => K.xx ⟨c, fs⟩ σ m1) fun x m1 => K.xx x σ m1
  | .tryx b h, σ, m, K => cm = true ∧ wpSs Φ gv cm b σ m { K with xx := fun x σ' m' => wpHs Φ gv h x σ' m' K }
  | .star is r e, σ, m, K => cm = true ∧ wpE Φ gv cm e σ m (fun d m1 => ∃ ds, seqD (rd m1 d) = some ds ∧ is.length ≤ ds.length ∧ K.nx ((setAll σ is ds).set r (.lst (ds.drop is.length))) m1) fun x m1 => K.xx x σ m1
  | .unl is e, σ, m, K => cm = true ∧ wpE Φ gv cm e σ m (fun d m1 => ∃ ds, rd m1 d = .lst ds ∧ is.length = ds.length ∧ K.nx (setAll σ is ds) m1) fun x m1 => K.xx x σ m1
  | .seti a i e, σ, m, K => wpE Φ gv cm e σ m (fun y m1 => wpE Φ gv cm a σ m1 (fun x m2 => wpE Φ gv cm i σ m2 (fun z m3 => match x, z with
    | .ref p, .int j => ∃ ds n, m3 p = some (.lst ds) ∧ L2.ixN ds.length j = some n ∧ K.nx σ (mup m3 p (some (.lst (ds.set n y))))
    | _, _ => False) fun x m1 => K.xx x σ m1) fun x m1 => K.xx x σ m1) fun x m1 => K.xx x σ m1
  | .swp v i j, σ, m, K => cm = true ∧ ∃ p a b ds n k x y, σ[v]? = some (.ref p) ∧ σ[i]? = some (.int a) ∧ σ[j]? = some (.int b) ∧ m p = some (.lst ds) ∧ L2.ixN ds.length a = some n ∧ L2.ixN ds.length b = some k ∧ ds[n]? = some x ∧ ds[k]? = some y ∧
      K.nx σ (mup m p (some (.lst ((ds.set n y).set k x))))
def wpSs (Φ : Fs) (gv : Nat → D) (cm : Bool) : Ss → Env → Mu → Kt → Prop
  | .nil, σ, m, K => K.nx σ m
  | .cons s r, σ, m, K => wpS Φ gv cm s σ m { K with nx := fun σ2 m2 => wpSs Φ gv cm r σ2 m2 K }
/-- the clauses, at an exception -/
def wpHs (Φ : Fs) (gv : Nat → D) : Hs → Ex → Env → Mu → Kt → Prop
  | .nil, x, σ, m, K => K.xx x σ m
  | .cons c none b r, x, σ, m, K => if subX x.c c = true then wpSs Φ gv false b σ m ⟨K.nx, K.rt, fun _ _ _ => False⟩ else wpHs Φ gv r x σ m K
  | .cons c (some i) b r, x, σ, m, K => if subX x.c c = true then wpSs Φ gv false b (σ.set i (.exn x.c x.fs)) m ⟨fun σ2 m2 => K.nx (σ2.set i .un) m2, K.rt, fun _ _ _ => False⟩ else wpHs Φ gv r x σ m K
end
/-- the law's script, as the draws want it -/
def startR (vs : List D) (m : Mu) (Q : Pq) : Prop := ∃ ns, vs = [.scr ns] ∧ ns.length ≤ 63 ∧ (∀ n ∈ ns, PySem.Builtin.Int.intBits n ≤ 1048576) ∧ ∀ a, Q (.st a) m
def drawR (vs : List D) (m : Mu) (Q : Pq) : Prop := ∃ a n, vs = [.st a, .int n] ∧ 1 ≤ n ∧ n ≤ 10 ^ 70 ∧ ∀ r, 0 ≤ r → r < n → Q (.int r) m
/-- fields that an __init__ sets, one behind the other -/
def wpI (Φ : Fs) (gv : Nat → D) : List (Nat × E) → List (Nat × D) → Env → Mu → (List (Nat × D) → Mu → Prop) → Px → Prop
  | [], acc, _, m, Q, _ => Q acc m
  | (f, e) :: r, acc, σ, m, Q, X => wpE Φ gv true e σ m (fun d m1 => wpI Φ gv r (acc ++ [(f, d)]) σ m1 Q X) X
def startE (nn : Nat) (vs : List D) : Env := vs ++ List.replicate (nn - vs.length) .un
/-- the defs, k levels deep; the Bool: nothing is being handled -/
def run (T : Tb) (gv : Nat → D) : Nat → Fs
  | 0 => fun _ _ _ _ _ _ => False
  | k + 1 => fun cm f vs m Q X => match T f with
    | some (.df np nn b) => vs.length = np ∧ wpSs (run T gv k) gv cm b (startE nn vs) m ⟨fun _ m => Q .non m, Q, fun x _ m => X x m⟩
    | some (.ini c np nn fs) => cm = true ∧ vs.length + 1 = np ∧ wpI (run T gv k) gv fs [] (startE nn (.un :: vs)) m (fun fs m1 => Q (.obj c fs) m1) X
    | some .start => cm = true ∧ startR vs m Q
    | some .draw => cm = true ∧ drawR vs m Q
    | none => False
end Pk

/-! What stands in the program's text is the def of ours: a look, decided in the kernel. -/
namespace Pk
open PySem
/-- where a text stands: its names by slots, its scope, whether a captured name may be stored; the names of defs, of constants; what a def may cost; the free names that are still the built-in ones -/
structure Ct where
  N : List Str
  sc : Scope
  fn : Str → Bool
  fnm : Nat → Option Str
  gnm : Nat → Option Str
  bl : List Str
  dfl : Nat → List Cn := fun _ => []
  /-- exception classes that are made, with the field of their own __init__; classes that are named; fields -/
  xc : Nat → Option (Str × Option Nat) := fun _ => none
  xn : Nat → Option Str := fun _ => none
  fl : Nat → Option Str := fun _ => none
  /-- own classes: fields, methods, what is made -/
  ofl : Nat → Option Str := fun _ => none
  omt : Nat → Option (Nat × Str) := fun _ => none
  omk : Nat → Option (Nat × Str) := fun _ => none
def visB (sc : Scope) (x : Str) : Bool := match sc.names.lookup x with
  | some .local => true
  | some .cell => true
  | some .free => true
  | _ => false
def glB (sc : Scope) (x : Str) : Bool := decide (sc.names.lookup x = some .globalImplicit) && !(decide (x = "__debug__"))
def blB (C : Ct) (x : Str) : Bool := glB C.sc x && C.bl.contains x
def locB (C : Ct) (x : Str) : Bool := match C.sc.names.lookup x with
  | some .local => true
  | some .cell => C.fn x
  | _ => false
def plainX : Expr → Bool
  | .Starred _ _ => false
  | .Slice .. => false
  | .ListComp .. => false
  | _ => true
def notStar : Expr → Bool
  | .Starred _ _ => false
  | _ => true
def notCall : Expr → Bool
  | .Call .. => false
  | _ => true
def notSet : Expr → Bool
  | .Set .. => false
  | _ => true
def notSlice : Expr → Bool
  | .Slice .. => false
  | _ => true
def notComp : Expr → Bool
  | .ListComp .. => false
  | .SetComp .. => false
  | .DictComp .. => false
  | _ => true
/-- an expression whose test is its value's truth -/
def plainT : Expr → Bool
  | .Name .. => true
  | .Call .. => true
  | .Subscript .. => true
  | .Attribute .. => true
  | _ => false
def opP : O2 → Operator
  | .add => .Add | .sub => .Sub | .mul => .Mult | .fdiv => .FloorDiv | .mod => .Mod | .pow => .Pow | .shl => .LShift | .shr => .RShift | .band => .BitAnd | .bor => .BitOr
def cpP : C2 → CmpOp
  | .eq => .Eq | .ne => .NotEq | .lt => .Lt | .le => .LtE | .gt => .Gt | .ge => .GtE | .mem => .In | .nmem => .NotIn | .is => .Is | .isn => .IsNot
def biN : Bi → Str
  | .len => "len" | .abs => "abs" | .min => "min" | .max => "max" | .sum => "sum" | .all => "all" | .any => "any"
  | .sorted => "sorted" | .list => "list" | .tuple => "tuple" | .str => "str" | .int => "int" | .ord => "ord"
def smN : Sm → Str
  | .join => "join" | .split => "split" | .index => "index" | .upper => "upper"
def mtN : Mt → Str
  | .pop => "pop" | .popAt => "pop" | .insert => "insert" | .extend => "extend" | .reverse => "reverse" | .clear => "clear" | .index => "index"
/-- how many arguments -/
def mtA : Mt → Nat
  | .pop => 0 | .popAt => 1 | .insert => 2 | .extend => 1 | .reverse => 0 | .clear => 0 | .index => 1
def tyN : Ty → Str
  | .int => "int" | .bool => "bool" | .str => "str" | .tuple => "tuple" | .list => "list"
mutual
def mPt (C : Ct) : Pt → Expr → Bool
  | .nm i, .Name x _ => decide (C.N[i]? = some x) && locB C x
  | .tp ps, .Tuple es _ _ => mPts C ps es
  | .tl ps, .Tuple es _ _ => mPts C ps es
  | _, _ => false
def mPts (C : Ct) : Pts → List Expr → Bool
  | .nil, [] => true
  | .cons p r, e :: es => notStar e && mPt C p e && mPts C r es
  | _, _ => false
end
def tysB (C : Ct) : List Ty → List Expr → Bool
  | [], [] => true
  | t :: ts, .Name x _ :: es => decide (x = tyN t) && blB C x && tysB C ts es
  | _, _ => false
def relSc (scope sc : Scope) : Scope :=
  { scope with names := scope.names.map fun (n, k) => if (k == .free && sc.kind == .function && sc.names.lookup n == some .cell) then (n, .cell) else (n, k) }
def Ct.blk (C : Ct) (scope : Scope) : Ct := { C with sc := relSc scope C.sc, fn := fun x => scope.names.lookup x == some .cell }
mutual
def ptIn (own : List Nat) : Pt → Bool
  | .nm i => own.contains i
  | .tp ps => ptsIn own ps
  | .tl ps => ptsIn own ps
def ptsIn (own : List Nat) : Pts → Bool
  | .nil => true
  | .cons p r => ptIn own p && ptsIn own r
end
def ownN (N : List Str) : List Nat → List (Str × Nat)
  | [] => []
  | i :: r => (N.getD i Str.empty, i) :: ownN N r
/-! ### one look a form -/
abbrev Lk := Expr → Bool
def mVar (C : Ct) (i : Nat) : Lk
  | .Name x _ => decide (C.N[i]? = some x) && visB C.sc x && !(decide (x = "__debug__")) && !(decide (x = "__classdict__"))
  | _ => false
def mNon : Lk
  | .Constant .none _ _ => true
  | _ => false
def mBl (b : Bool) : Lk
  | .Constant (.bool c) _ _ => decide (b = c)
  | _ => false
def mInt (i : Int) : Lk
  | .Constant (.int j) _ _ => decide (i = j)
  | _ => false
def mStr (s : List Nat) : Lk
  | .Constant (.str z) _ _ => decide (s = z.cps.toList)
  | _ => false
def mGlob (C : Ct) (g : Nat) : Lk
  | .Name x _ => decide (C.gnm g = some x) && glB C.sc x
  | _ => false
def mOp2 (o : O2) (a b : Lk) : Lk
  | .BinOp pa po pb _ => decide (opP o = po) && a pa && b pb
  | _ => false
def mNeg (a : Lk) : Lk
  | .UnaryOp .USub pa _ => a pa
  | _ => false
def mCmp (c : C2) (a b : Lk) : Lk
  | .Compare pa [pc] [pb] _ => decide (cpP c = pc) && notSet pb && a pa && b pb
  | _ => false
def mChain (c d : C2) (a b e : Lk) : Lk
  | .Compare pa [pc, pd] [pb, pe] _ => decide (cpP c = pc) && decide (cpP d = pd) && notSet pb && notSet pe && a pa && b pb && e pe
  | _ => false
def mAnd (a b : Lk) : Lk
  | .BoolOp .And (pa :: pb :: rest) pos => a pa && (match rest with
    | [] => b pb
    | r :: rs => b (.BoolOp .And (pb :: r :: rs) pos))
  | _ => false
def mOr (a b : Lk) : Lk
  | .BoolOp .Or (pa :: pb :: rest) pos => a pa && (match rest with
    | [] => b pb
    | r :: rs => b (.BoolOp .Or (pb :: r :: rs) pos))
  | _ => false
def mNot (a : Lk) : Lk
  | .UnaryOp .Not pa _ => a pa
  | _ => false
def mIfe (t a b : Lk) : Lk
  | .IfExp pt pa pb _ => t pt && a pa && b pb
  | _ => false
def mTup (es : List Expr → Bool) : Lk
  | .Tuple pes _ _ => decide (pes.length ≤ 1000) && es pes
  | _ => false
def mLst (es : List Expr → Bool) : Lk
  | .List pes _ => decide (pes.length ≤ 1000) && es pes
  | _ => false
def mIx (a b : Lk) : Lk
  | .Subscript pa pb _ => notSlice pb && a pa && b pb
  | _ => false
def mSlc (a : Lk) (lo hi : Option Expr → Bool) : Lk
  | .Subscript pa (.Slice plo phi none _) _ => a pa && lo plo && hi phi
  | _ => false
def mRev (a : Lk) : Lk
  | .Subscript pa (.Slice none none (some (.UnaryOp .USub (.Constant (.int 1) _ _) _)) _) _ => a pa
  | _ => false
def mCall (C : Ct) (f : Nat) (es : List Expr → Bool) : Lk
  | .Call (.Name x _) (p :: pes) [] _ => decide (C.fnm f = some x) && glB C.sc x && notStar p && pes.all notStar && es (p :: pes)
  | .Call (.Name x _) [] [] _ => decide (C.fnm f = some x) && glB C.sc x && es []
  | _ => false
def mCallD (C : Ct) (f : Nat) (es : List Expr → Bool) (cs : List Cn) : Lk
  | .Call (.Name x _) (p :: pes) [] _ => decide (C.fnm f = some x) && glB C.sc x && notStar p && pes.all notStar && es (p :: pes) && decide (0 < cs.length ∧ cs.length ≤ (C.dfl f).length ∧ (C.dfl f).drop ((C.dfl f).length - cs.length) = cs)
  | _ => false
def mBi (C : Ct) (f : Bi) (es : List Expr → Bool) : Lk
  | .Call (.Name x _) (p :: pes) [] _ => decide (x = biN f) && blB C x && notStar p && pes.all notStar && es (p :: pes)
  | _ => false
/-- a method of a text, one argument -/
def mSm (f : Sm) (a e : Lk) : Lk
  | .Call (.Attribute pa x apos) [p] [] pos => decide (x = smN f) && decide (apos.endLine = pos.line) && notCall pa && notStar p && a pa && e p
  | _ => false
/-- a method of a list -/
def mMth (f : Mt) (a : Lk) (es : List Expr → Bool) : Lk
  | .Call (.Attribute pa x apos) ps [] pos => decide (x = mtN f) && decide (ps.length = mtA f) && decide (apos.endLine = pos.line) && notCall pa && ps.all notStar && a pa && es ps
  | _ => false
/-- list(range(a)) -/
def mLrg (C : Ct) (a : Lk) : Lk
  | .Call (.Name x _) [.Call (.Name y _) [p] [] _] [] _ => decide (x = "list") && blB C x && decide (y = "range") && blB C y && notStar p && a p
  | _ => false
def mInD (neg : Bool) (a b : Lk) : Lk
  | .Compare pa [pc] [pb] _ => decide (pc = if neg = true then .NotIn else .In) && notSet pb && a pa && b pb
  | _ => false
/-- a.count(True) -/
def mCntT (a : Lk) : Lk
  | .Call (.Attribute pa x apos) [.Constant (.bool true) _ _] [] pos => decide (x = "count") && decide (apos.endLine = pos.line) && notCall pa && a pa
  | _ => false
/-- a.upper() -/
def mUp (a : Lk) : Lk
  | .Call (.Attribute pa x apos) [] [] pos => decide (x = "upper") && decide (apos.endLine = pos.line) && notCall pa && a pa
  | _ => false
def mIsi (C : Ct) (a : Lk) (ts : List Ty) : Lk
  | .Call (.Name x _) [pa, .Tuple pts _ _] [] _ => decide (x = "isinstance") && blB C x && notStar pa && a pa && decide (ts.length ≤ 1000) && tysB C ts pts
  | .Call (.Name x _) [pa, .Name y p2] [] _ => decide (x = "isinstance") && blB C x && notStar pa && a pa && tysB C ts [.Name y p2]
  | _ => false
def mSset (C : Ct) (f : Bool) (a : Lk) : Lk
  | .Call (.Name x _) [.Call (.Name y _) [p] [] _] [] _ => decide (x = if f = true then "sorted" else "len") && decide (y = "set") && blB C x && blB C y && notStar p && a p
  | _ => false
/-- the name of an exception, its field -/
def mXfld (C : Ct) (i f : Nat) : Lk
  | .Attribute (.Name x p) y _ => mVar C i (.Name x p) && decide (C.fl f = some y)
  | _ => false
def mXis (C : Ct) (i c : Nat) : Lk
  | .Call (.Name x _) [.Name y p, .Name z _] [] _ => decide (x = "isinstance") && blB C x && mVar C i (.Name y p) && decide (C.xn c = some z) && glB C.sc z
  | _ => false
def mCallx (C : Ct) (f i : Nat) : Lk
  | .Call (.Name x _) [.Name y p] [] _ => decide (C.fnm f = some x) && glB C.sc x && mVar C i (.Name y p)
  | _ => false
/-- a field of an own instance -/
def mFld (C : Ct) (a : Lk) (f : Nat) : Lk
  | .Attribute pa y _ => notCall pa && a pa && decide (C.ofl f = some y)
  | _ => false
def mMeth (C : Ct) (f c : Nat) (a : Lk) (es : List Expr → Bool) (cs : List Cn) : Lk
  | .Call (.Attribute pa y apos) ps [] pos => notCall pa && a pa && decide (C.omt f = some (c, y)) && decide (apos.endLine = pos.line) && decide (ps.length < 30) && ps.all notStar && es ps && (cs.isEmpty || decide (cs.length ≤ (C.dfl f).length ∧ (C.dfl f).drop ((C.dfl f).length - cs.length) = cs))
  | _ => false
def mMake (C : Ct) (f : Nat) (es : List Expr → Bool) : Lk
  | .Call (.Name x _) (p :: pes) [] _ => (match C.omk f with
    | some (_, y) => decide (x = y)
    | none => false) && glB C.sc x && notStar p && pes.all notStar && es (p :: pes)
  | _ => false
/-- a part of an f-string -/
def mFp (e : E) (l : Lk) : Lk
  | .FormattedValue pe c none _ => decide (c = -1) && l pe
  | .Constant k i p => (match e with
    | .str _ => true
    | _ => false) && l (.Constant k i p)
  | _ => false
def mFst (l : List Expr → Bool) : Lk
  | .JoinedStr (a :: b :: r) _ => l (a :: b :: r)
  | _ => false
def mComp (C : Ct) (own : List Nat) (elt : Scope → Lk) (p : Pt) (it : Expr → Lk) (c : Scope → List Expr → Bool) : Lk
  | .ListComp pelt [⟨pp, pit, pifs, 0⟩] scope _ => L2.blkC C.N C.sc scope (ownN C.N own) && notSet pit && ptIn own p && it pp pit && mPt (C.blk scope) p pp && elt scope pelt && c scope pifs
  | _ => false
/-- .. with two fors -/
def mComp2 (C : Ct) (own own1 : List Nat) (elt : Scope → Lk) (p : Pt) (it : Expr → Lk) (c : Scope → List Expr → Bool) (p1 : Pt) (it1 : Scope → Expr → Lk) (c1 : Scope → List Expr → Bool) : Lk
  | .ListComp pelt [⟨pp, pit, pifs, 0⟩, ⟨pp1, pit1, pifs1, 0⟩] scope _ => L2.blkC C.N C.sc scope (ownN C.N own) && notSet pit && notSet pit1 && ptIn own p && ptIn own1 p1 && own1.all (fun i => own.contains i) && it pp pit && mPt (C.blk scope) p pp && elt scope pelt && c scope pifs
    && it1 scope pp1 pit1 && mPt (C.blk scope) p1 pp1 && c1 scope pifs1
  | _ => false
def isTupX : Expr → Bool
  | .Tuple .. => true
  | _ => false
def mSeq (e : Lk) : Expr → Lk := fun _ => e
def mRng (C : Ct) (e : Lk) : Lk
  | .Call (.Name x _) [p] [] _ => decide (x = "range") && blB C x && notStar p && e p
  | _ => false
def mRng2 (C : Ct) (e e2 : Lk) : Lk
  | .Call (.Name x _) [p, p2] [] _ => decide (x = "range") && blB C x && notStar p && notStar p2 && e p && e2 p2
  | _ => false
def mEnm (C : Ct) (e : Lk) : Lk
  | .Call (.Name x _) [p] [] _ => decide (x = "enumerate") && blB C x && notStar p && e p
  | _ => false
/-- enumerate(e, start=1) -/
def mEn1 (C : Ct) (e : Lk) : Lk
  | .Call (.Name x _) [p] [⟨some s, .Constant (.int 1) _ _, _⟩] _ => decide (x = "enumerate") && decide (s = "start") && blB C x && notStar p && e p
  | _ => false
def mZip (C : Ct) (e e2 : Lk) : Lk
  | .Call (.Name x _) [p, p2] [] _ => decide (x = "zip") && blB C x && notStar p && notStar p2 && e p && e2 p2
  | _ => false
/-- sorted, len of a set comprehension -/
def mSsc (C : Ct) (f : Bool) (own : List Nat) (elt : Scope → Lk) (p : Pt) (it : Expr → Lk) (c : Scope → List Expr → Bool) : Lk
  | .Call (.Name x _) [.SetComp pelt [⟨pp, pit, pifs, 0⟩] scope _] [] _ => decide (x = if f = true then "sorted" else "len") && blB C x && L2.blkC C.N C.sc scope (ownN C.N own) && notSet pit && ptIn own p && it pp pit && mPt (C.blk scope) p pp && elt scope pelt && c scope pifs
  | _ => false
/-- forms that make a list of their own -/
def isFr : E → Bool
  | .lst _ => true
  | .comp .. => true
  | .comp2 .. => true
  | .bi .list _ => true
  | _ => false
mutual
def mE : E → Ct → Lk
  | .var i, C => mVar C i
  | .non, _ => mNon
  | .bl b, _ => mBl b
  | .int i, _ => mInt i
  | .str s, _ => mStr s
  | .glob g, C => mGlob C g
  | .op2 o a b, C => mOp2 o (mE a C) (mE b C)
  | .neg a, C => mNeg (mE a C)
  | .cmp c a b, C => mCmp c (mE a C) (mE b C)
  | .chain c d a b e, C => mChain c d (mE a C) (mE b C) (mE e C)
  | .and a b, C => mAnd (mE a C) (mE b C)
  | .or a b, C => mOr (mE a C) (mE b C)
  | .not a, C => mNot (mE a C)
  | .ife t a b, C => mIfe (mE t C) (mE a C) (mE b C)
  | .tup es, C => mTup (mEs es C)
  | .lst es, C => mLst (mEs es C)
  | .ix a b, C => mIx (mE a C) (mE b C)
  | .slc a lo hi, C => mSlc (mE a C) (mEo lo C) (mEo hi C)
  | .rev a, C => mRev (mE a C)
  | .call f es, C => mCall C f (mEs es C)
  | .calld f es cs, C => mCallD C f (mEs es C) cs
  | .bi f es, C => mBi C f (mEs es C)
  | .sm f a e, C => mSm f (mE a C) (mE e C)
  | .cntT a, C => mCntT (mE a C)
  | .up a, C => mUp (mE a C)
  | .isi a ts, C => mIsi C (mE a C) ts
  | .comp own elt p it c, C => mComp C own (fun sc => mE elt (C.blk sc)) p (mIt it C) (fun sc => mTo c (C.blk sc))
  | .comp2 own own1 elt p it c p1 it1 c1, C => mComp2 C own own1 (fun sc => mE elt (C.blk sc)) p (mIt it C) (fun sc => mTo c (C.blk sc)) p1 (fun sc => mIt it1 (C.blk sc)) (fun sc => mTo c1 (C.blk sc))
  | .ssc f _ own elt p it c, C => mSsc C f own (fun sc => mE elt (C.blk sc)) p (mIt it C) (fun sc => mTo c (C.blk sc))
  | .bx e, C => fun x => isFr e && mE e C x
  | .sset f e, C => mSset C f (mE e C)
  | .xfld i f, C => mXfld C i f
  | .xis i c, C => mXis C i c
  | .callx f i, C => mCallx C f i
  | .fst es, C => mFst (mFs es C)
  | .mth f a es, C => mMth f (mE a C) (mEs es C)
  | .lrg a, C => mLrg C (mE a C)
  | .inD neg a b, C => mInD neg (mE a C) (mE b C)
  | .fld a f, C => mFld C (mE a C) f
  | .meth f c a es cs, C => mMeth C f c (mE a C) (mEs es C) cs
  | .make f es, C => mMake C f (mEs es C)
def mEs : Es → Ct → List Expr → Bool
  | .nil, _ => fun ps => ps.isEmpty
  | .cons e r, C => fun ps => match ps with
    | [] => false
    | p :: ps => notStar p && mE e C p && mEs r C ps
def mFs : Es → Ct → List Expr → Bool
  | .nil, _ => fun ps => ps.isEmpty
  | .cons e r, C => fun ps => match ps with
    | [] => false
    | p :: ps => mFp e (mE e C) p && mFs r C ps
def mEo : Eo → Ct → Option Expr → Bool
  | .none, _ => fun p => p.isNone
  | .some e, C => fun p => match p with
    | none => false
    | some p => mE e C p
def mTo : Eo → Ct → List Expr → Bool
  | .none, _ => fun ps => ps.isEmpty
  | .some e, C => fun ps => match ps with
    | [p] => mE e C p
    | _ => false
def mIt : It → Ct → Expr → Lk
  | .seq e, C => mSeq (mE e C)
  | .rng e, C => fun _ => mRng C (mE e C)
  | .rng2 e e2, C => fun _ => mRng2 C (mE e C) (mE e2 C)
  | .enm e, C => fun t p => isTupX t && mEnm C (mE e C) p
  | .en1 e, C => fun t p => isTupX t && mEn1 C (mE e C) p
  | .zip e e2, C => fun t p => isTupX t && mZip C (mE e C) (mE e2 C) p
end
end Pk

/-! How data stands in the layer's heap, what a step keeps. -/
namespace Pk
open PySem L2
def LIM : Nat := 2 ^ 1000
structure Gs where
  K : PySem.W.Frag
  cls : Nat → Addr
  fld : Nat → Str
  /-- the exception classes -/
  xk : List Nat := []
  /-- own classes, their fields -/
  oc : List Nat := []
  ofs : Nat → List Nat := fun _ => []
structure Kn where
  F : Hp
  dr : List (Addr × Addr × Addr)
  n : Nat
structure Kn.le (W W' : Kn) : Prop where
  f : ∀ b o, W.F b = some o → W'.F b = some o
  d : ∀ t ∈ W.dr, t ∈ W'.dr
theorem Kn.le.refl (W : Kn) : Kn.le W W := ⟨fun _ _ h => h, fun _ h => h⟩
theorem Kn.le.trans {W W1 W2 : Kn} (a : Kn.le W W1) (b : Kn.le W1 W2) : Kn.le W W2 := ⟨fun x o h => b.f x o (a.f x o h), fun t h => b.d t (a.d t h)⟩
mutual
inductive Rep (G : Gs) (W : Kn) : V → D → Prop
  | non : Rep G W .non .non
  | bl (b : Bool) : Rep G W (.bl b) (.bl b)
  | int (i : Int) : Rep G W (.int i) (.int i)
  | str (s : List Nat) : Rep G W (.str ⟨s.toArray⟩) (.str s)
  | tup {a : Addr} {xs : List V} {ds : List D} : SqT G.K W.F a xs → RepL G W xs ds → Rep G W (.ref a) (.tup ds)
  | lst {a : Addr} {xs : List V} {ds : List D} : W.F a = some (.lst xs) → RepL G W xs ds → Rep G W (.ref a) (.lst ds)
  | ref (a : Addr) : Rep G W (.ref a) (.ref a)
  | st {a g c : Addr} : (a, g, c) ∈ W.dr → Rep G W (.ref a) (.st a)
  | scr {a : Addr} {ns : List Int} : SqL G.K W.F a (ns.map V.int) → Rep G W (.ref a) (.scr ns)
  | obj {a dx : Addr} {c : Nat} {fv : List (Str × V)} {fs : List (Nat × D)} : W.F a = some (.ins (G.cls c) dx fv) → c ∈ G.oc → (∀ p ∈ fs, p.1 ∈ G.ofs c) → RepO G W fv fs → Rep G W (.ref a) (.obj c fs)
inductive RepO (G : Gs) (W : Kn) : List (Str × V) → List (Nat × D) → Prop
  | nil : RepO G W [] []
  | cons {f : Nat} {v : V} {d : D} {fv : List (Str × V)} {fs : List (Nat × D)} : Rep G W v d → RepO G W fv fs → RepO G W ((G.fld f, v) :: fv) ((f, d) :: fs)
inductive RepL (G : Gs) (W : Kn) : List V → List D → Prop
  | nil : RepL G W [] []
  | cons {v : V} {vs : List V} {d : D} {ds : List D} : Rep G W v d → RepL G W vs ds → RepL G W (v :: vs) (d :: ds)
end
section
variable {G : Gs} {W W' W1 W2 : Kn} {m m' m1 m2 : Mu} {H H' H1 H2 : Hp} {c c1 c2 : Nat}
theorem sqT_mono (e : Kn.le W W') {a : Addr} {xs : List V} (h : SqT G.K W.F a xs) : SqT G.K W'.F a xs := by
  rcases h with (h | ⟨o, h⟩) | h
  · exact .inl (.inl (e.f _ _ h))
  · exact .inl (.inr ⟨o, e.f _ _ h⟩)
  · exact .inr h
theorem sqL_mono (e : Kn.le W W') {a : Addr} {xs : List V} (h : SqL G.K W.F a xs) : SqL G.K W'.F a xs := by
  rcases h with (h | ⟨o, h⟩) | h
  · exact .inl (.inl (e.f _ _ h))
  · exact .inl (.inr ⟨o, e.f _ _ h⟩)
  · exact .inr h
mutual
theorem Rep.mono0 (e : Kn.le W W') : ∀ {v : V} {d : D}, Rep G W v d → Rep G W' v d
  | _, _, .non => .non
  | _, _, .bl _ => .bl _
  | _, _, .int _ => .int _
  | _, _, .str _ => .str _
  | _, _, .tup h1 h2 => .tup (sqT_mono e h1) (RepL.mono0 e h2)
  | _, _, .lst h1 h2 => .lst (e.f _ _ h1) (RepL.mono0 e h2)
  | _, _, .ref _ => .ref _
  | _, _, .st h1 => .st (e.d _ h1)
  | _, _, .scr h1 => .scr (sqL_mono e h1)
  | _, _, .obj h1 h2 h3 h4 => .obj (e.f _ _ h1) h2 h3 (RepO.mono e h4)
theorem RepL.mono0 (e : Kn.le W W') : ∀ {vs : List V} {ds : List D}, RepL G W vs ds → RepL G W' vs ds
  | _, _, .nil => .nil
  | _, _, .cons h1 h2 => .cons (Rep.mono0 e h1) (RepL.mono0 e h2)
theorem RepO.mono (e : Kn.le W W') : ∀ {fv : List (Str × V)} {fs : List (Nat × D)}, RepO G W fv fs → RepO G W' fv fs
  | _, _, .nil => .nil
  | _, _, .cons h1 h2 => .cons (Rep.mono0 e h1) (RepO.mono e h2)
end
theorem Rep.mono (e : Kn.le W W') (d : D) {v : V} (h : Rep G W v d) : Rep G W' v d := Rep.mono0 e h
theorem RepL.mono (e : Kn.le W W') (ds : List D) {vs : List V} (h : RepL G W vs ds) : RepL G W' vs ds := RepL.mono0 e h
theorem RepO.len : ∀ {fv : List (Str × V)} {fs : List (Nat × D)}, RepO G W fv fs → fv.length = fs.length
  | _, _, .nil => rfl
  | _, _, .cons _ h2 => by rw [List.length_cons, List.length_cons, RepO.len h2]
theorem RepO.look {f : Nat} {d : D} : ∀ {fv : List (Str × V)} {fs : List (Nat × D)}, RepO G W fv fs → (∀ p ∈ fs, G.fld p.1 = G.fld f → p.1 = f) → fs.lookup f = some d → ∃ v, fv.lookup (G.fld f) = some v ∧ Rep G W v d
  | _, _, .nil, _, h => by cases h
  | _, _, .cons (f := g) (v := v) (d := d') h1 h2, hi, h => by
    rw [List.lookup_cons] at h
    by_cases e : f = g
    · subst e
      rw [beq_self_eq_true] at h
      cases Option.some.inj h
      exact ⟨v, by rw [List.lookup_cons, beq_self_eq_true], h1⟩
    · rw [beq_eq_false_iff_ne.mpr e] at h
      obtain ⟨u, q1, q2⟩ := RepO.look h2 (fun p hp => hi p (List.mem_cons_of_mem _ hp)) h
      refine ⟨u, ?_, q2⟩
      rw [List.lookup_cons, beq_eq_false_iff_ne.mpr (fun z => e (hi (g, d') (List.mem_cons_self ..) z.symm).symm)]
      exact q1
theorem RepO.none {n : Str} : ∀ {fv : List (Str × V)} {fs : List (Nat × D)}, RepO G W fv fs → (∀ p ∈ fs, G.fld p.1 ≠ n) → fv.lookup n = .none
  | _, _, .nil, _ => rfl
  | _, _, .cons (f := g) (v := v) (d := d') h1 h2, hi => by
    rw [List.lookup_cons, beq_eq_false_iff_ne.mpr (fun z => hi (g, d') (List.mem_cons_self ..) z.symm)]
    exact RepO.none h2 fun p hp => hi p (List.mem_cons_of_mem _ hp)
theorem RepO.put {f : Nat} {v : V} {d : D} (h : Rep G W v d) : ∀ {fv : List (Str × V)} {fs : List (Nat × D)}, RepO G W fv fs → (∀ p ∈ fs, G.fld p.1 ≠ G.fld f) → RepO G W (putF (G.fld f) v fv) (fs ++ [(f, d)])
  | _, _, .nil, _ => .cons h .nil
  | _, _, .cons (f := g) (v := v') (d := d') (fv := fv) h1 h2, hi => by
    have e : putF (G.fld f) v ((G.fld g, v') :: fv) = (G.fld g, v') :: putF (G.fld f) v fv := by
      show (if G.fld g = G.fld f then _ else _) = _
      rw [if_neg (hi (g, d') (List.mem_cons_self ..))]
    rw [e]
    exact .cons h1 (RepO.put h h2 fun p hp => hi p (List.mem_cons_of_mem _ hp))
theorem RepL.length : ∀ {vs : List V} {ds : List D}, RepL G W vs ds → vs.length = ds.length
  | _, [], h => by cases h; rfl
  | _, _ :: _, h => by
    cases h with
    | cons h1 h2 => simp [RepL.length h2]
theorem RepL.append : ∀ {vs ws : List V} {ds es : List D}, RepL G W vs ds → RepL G W ws es → RepL G W (vs ++ ws) (ds ++ es)
  | _, _, [], _, h, k => by cases h; exact k
  | _, _, _ :: _, _, h, k => by
    cases h with
    | cons h1 h2 => exact .cons h1 (RepL.append h2 k)
theorem RepL.get : ∀ {vs : List V} {ds : List D} {i : Nat} {d : D}, RepL G W vs ds → ds[i]? = some d → ∃ v, vs[i]? = some v ∧ Rep G W v d
  | _, [], _, _, _, e => by simp at e
  | _, _ :: _, 0, _, h, e => by
    cases h with
    | cons h1 h2 => simp at e; subst e; exact ⟨_, rfl, h1⟩
  | _, _ :: _, i + 1, _, h, e => by
    cases h with
    | cons h1 h2 =>
      obtain ⟨v, q1, q2⟩ := RepL.get (i := i) h2 (by simpa using e)
      exact ⟨v, by simpa using q1, q2⟩
theorem RepL.getV : ∀ {vs : List V} {ds : List D} {i : Nat} {v : V}, RepL G W vs ds → vs[i]? = some v → ∃ d, ds[i]? = some d ∧ Rep G W v d
  | [], _, _, _, h, e => by simp at e
  | _ :: _, [], _, _, h, e => by cases h
  | _ :: _, _ :: _, 0, _, h, e => by
    cases h with
    | cons h1 h2 => simp at e; subst e; exact ⟨_, rfl, h1⟩
  | _ :: _, _ :: _, i + 1, _, h, e => by
    cases h with
    | cons h1 h2 =>
      obtain ⟨v, q1, q2⟩ := RepL.getV (i := i) h2 (by simpa using e)
      exact ⟨v, by simpa using q1, q2⟩
theorem RepL.take : ∀ (n : Nat) {vs : List V} {ds : List D}, RepL G W vs ds → RepL G W (vs.take n) (ds.take n)
  | 0, _, _, _ => by simp; exact .nil
  | _ + 1, _, [], h => by cases h; exact .nil
  | n + 1, _, _ :: _, h => by
    cases h with
    | cons h1 h2 => exact .cons h1 (RepL.take n h2)
theorem RepL.drop : ∀ (n : Nat) {vs : List V} {ds : List D}, RepL G W vs ds → RepL G W (vs.drop n) (ds.drop n)
  | 0, _, _, h => by simpa using h
  | _ + 1, _, [], h => by cases h; exact .nil
  | n + 1, _, _ :: _, h => by
    cases h with
    | cons h1 h2 => exact RepL.drop n h2
theorem RepL.reverse : ∀ {vs : List V} {ds : List D}, RepL G W vs ds → RepL G W vs.reverse ds.reverse
  | _, [], h => by cases h; exact .nil
  | _, _ :: _, h => by
    cases h with
    | cons h1 h2 =>
      rw [List.reverse_cons, List.reverse_cons]
      exact (RepL.reverse h2).append (.cons h1 .nil)

/-! ### the law's draws -/
structure DrAt (H : Hp) (n : Nat) (t : Addr × Addr × Addr) (gs cs : List Int) (cur : Int) (cnt : Nat) : Prop where
  a : H t.1 = some (.lst [.ref t.2.1, .int cur, .ref t.2.2, .int cnt])
  g : H t.2.1 = some (.lst (gs.map V.int))
  c : H t.2.2 = some (.lst (cs.map V.int))
  cu : 0 ≤ cur
  cb : Builtin.Int.intBits cur ≤ 1048576
  gb : ∀ k ∈ gs, (0 ≤ k ∧ Builtin.Int.intBits k ≤ 1048576)
  gl : gs.length ≤ 63
  cc : ∀ k ∈ cs, 0 ≤ k ∧ k < 2147483629
  cl : cs.length ≤ 63
  n : cnt ≤ n
def DrOk (H : Hp) (n : Nat) (t : Addr × Addr × Addr) : Prop := ∃ gs cs cur cnt, DrAt H n t gs cs cur cnt
def inT (t : Addr × Addr × Addr) (b : Addr) : Prop := b = t.1 ∨ b = t.2.1 ∨ b = t.2.2
def drA (W : Kn) (b : Addr) : Prop := ∃ t ∈ W.dr, inT t b
theorem DrOk.there {t : Addr × Addr × Addr} {n : Nat} {b : Addr} (h : DrOk H n t) (i : inT t b) : ∃ xs, H b = some (.lst xs) := by
  obtain ⟨gs, cs, cur, cnt, d⟩ := h
  rcases i with e | e | e
  · subst e; exact ⟨_, d.a⟩
  · subst e; exact ⟨_, d.g⟩
  · subst e; exact ⟨_, d.c⟩
theorem DrOk.same {t : Addr × Addr × Addr} {n n' : Nat} (h : DrOk H n t) (s : ∀ b, inT t b → H' b = H b) (hn : n ≤ n') : DrOk H' n' t := by
  obtain ⟨gs, cs, cur, cnt, d⟩ := h
  exact ⟨gs, cs, cur, cnt, (s _ (.inl rfl)).trans d.a, (s _ (.inr (.inl rfl))).trans d.g, (s _ (.inr (.inr rfl))).trans d.c, d.cu, d.cb, d.gb, d.gl, d.cc, d.cl, Nat.le_trans d.n hn⟩

def ObR (G : Gs) (W : Kn) (H : Hp) (a : Addr) : Ob → Prop
  | .lst ds => ∃ vs, H a = some (.lst vs) ∧ RepL G W vs ds
  | .dct _ => False
  | .ins _ _ => False
theorem ObR.mono {a : Addr} {o : Ob} (e : Kn.le W W') (s : H' a = H a) (h : ObR G W H a o) : ObR G W' H' a o := by
  cases o with
  | lst ds =>
    obtain ⟨vs, h1, h2⟩ := h
    exact ⟨vs, s.trans h1, RepL.mono e ds h2⟩
  | dct _ => exact h.elim
  | ins _ _ => exact h.elim
theorem ObR.there {a : Addr} {o : Ob} (h : ObR G W H a o) : ∃ u, H a = some u := by
  cases o with
  | lst ds =>
    obtain ⟨vs, h1, h2⟩ := h
    exact ⟨_, h1⟩
  | dct _ => exact h.elim
  | ins _ _ => exact h.elim
structure SRel0 (G : Gs) (W : Kn) (m : Mu) (H : Hp) : Prop where
  fz : ∀ b o, W.F b = some o → H b = some o
  bx : ∀ b o, m b = some o → ObR G W H b o
  dj : ∀ b o, m b = some o → W.F b = none
  dr : ∀ t ∈ W.dr, DrOk H W.n t
  drF : ∀ b, drA W b → W.F b = none ∧ m b = none
  dri : ∀ t ∈ W.dr, t.1 ≠ t.2.1 ∧ t.1 ≠ t.2.2 ∧ t.2.1 ≠ t.2.2
  drn : ∀ t ∈ W.dr, ∀ u ∈ W.dr, t ≠ u → ∀ b, inT t b → ¬ inT u b
  bd : ∀ b xs, (H b = some (.lst xs) ∨ H b = some (.tup xs) ∨ ∃ o, H b = some (.frz o (.tup xs))) → xs.length ≤ sizeLine
structure Step (W : Kn) (m : Mu) (H : Hp) (W' : Kn) (m' : Mu) (H' : Hp) (c : Nat) : Prop where
  le : Kn.le W W'
  kp : ∀ b o, H b = some o → m b = none → ¬ drA W b → H' b = some o
  uk : ∀ b o, H b = some o → W.F b = none → m b = none → ¬ drA W b → W'.F b = none ∧ m' b = none
  dk : ∀ b o, H b = some o → drA W' b → drA W b
  th : ∀ b o, H b = some o → ∃ o', H' b = some o'
  n : W'.n ≤ W.n + c
theorem Step.refl (W : Kn) (m : Mu) (H : Hp) (c : Nat) : Step W m H W m H c :=
  ⟨Kn.le.refl W, fun _ _ h _ _ => h, fun _ _ _ h k _ => ⟨h, k⟩, fun _ _ _ h => h, fun _ o h => ⟨o, h⟩, Nat.le_add_right _ _⟩
theorem Step.weak (a : Step W m H W' m' H' c) (h : c ≤ c1) : Step W m H W' m' H' c1 := ⟨a.le, a.kp, a.uk, a.dk, a.th, by have := a.n; omega⟩
theorem Step.mk1 (S1 : SRel0 G W1 m1 H1) (a : Step W m H W1 m1 H1 c1) {b : Addr} {o : HO} (h : H b = some o) (hm : m b = none) (hd : ¬ drA W b) : H1 b = some o ∧ m1 b = none ∧ ¬ drA W1 b := by
  refine ⟨a.kp b o h hm hd, ?_, fun q => hd (a.dk b o h q)⟩
  cases e : W.F b with
  | none => exact (a.uk b o h e hm hd).2
  | some u =>
    have e1 := a.le.f b u e
    cases q : m1 b with
    | none => rfl
    | some x =>
      have := S1.dj b x q
      rw [e1] at this
      cases this
theorem Step.trans0 (S1 : SRel0 G W1 m1 H1) (a : Step W m H W1 m1 H1 c1) (b : Step W1 m1 H1 W2 m2 H2 c2) : Step W m H W2 m2 H2 (c1 + c2) where
  le := a.le.trans b.le
  kp := fun x o h hm hd => by
    obtain ⟨h1, h2, h3⟩ := Step.mk1 S1 a h hm hd
    exact b.kp x o h1 h2 h3
  uk := fun x o h hf hm hd => by
    obtain ⟨h1, h2, h3⟩ := Step.mk1 S1 a h hm hd
    exact b.uk x o h1 (a.uk x o h hf hm hd).1 h2 h3
  dk := fun x o h q => by
    obtain ⟨o', h'⟩ := a.th x o h
    exact a.dk x o h (b.dk x o' h' q)
  th := fun x o h => by
    obtain ⟨o', h'⟩ := a.th x o h
    exact b.th x o' h'
  n := by have := a.n; have := b.n; omega
/-! ### a new list, a new tuple -/
def Kn.new (W : Kn) (p : Addr) (o : HO) : Kn := { W with F := upd W.F p o }
theorem SRel0.none {b : Addr} (S : SRel0 G W m H) (h : H b = .none) : W.F b = .none ∧ m b = .none ∧ ¬ drA W b := by
  refine ⟨?_, ?_, fun q => ?_⟩
  · cases e : W.F b with
    | none => rfl
    | some o => rw [S.fz b o e] at h; cases h
  · cases e : m b with
    | none => rfl
    | some o =>
      obtain ⟨u, hu⟩ := (S.bx b o e).there
      rw [hu] at h; cases h
  · obtain ⟨t, ht, i⟩ := q
    obtain ⟨xs, e⟩ := (S.dr t ht).there i
    rw [e] at h; cases h
theorem le_new {p : Addr} {o : HO} (h : W.F p = none) : Kn.le W (W.new p o) := by
  refine ⟨fun b u e => ?_, fun _ h => h⟩
  show upd W.F p o b = some u
  rw [upd_ne]
  · exact e
  · intro z
    rw [z, h] at e
    cases e
def seqO : HO → Prop
  | .lst xs => xs.length ≤ sizeLine
  | .tup xs => xs.length ≤ sizeLine
  | _ => False
theorem SRel0.new {p : Addr} {o : HO} (S : SRel0 G W m H) (h : H p = .none) (ho : seqO o) : SRel0 G (W.new p o) m (upd H p o) := by
  obtain ⟨n1, n2, n3⟩ := S.none h
  have e := le_new (W := W) (o := o) n1
  have ne : ∀ {b : Addr} {u : HO}, H b = some u → b ≠ p := fun {b u} q z => by rw [z, h] at q; cases q
  refine ⟨fun b u q => ?_, fun b u q => ?_, fun b u q => ?_, fun t ht => ?_, fun b q => ?_, S.dri, S.drn, fun b xs q => ?_⟩
  · by_cases hb : b = p
    · subst hb
      have q' : upd W.F b o b = some u := q
      rw [upd_same] at q'
      rw [upd_same]
      exact q'
    · have q' : upd W.F p o b = some u := q
      rw [upd_ne hb] at q'
      rw [upd_ne hb]
      exact S.fz b u q'
  · obtain ⟨x, hx⟩ := (S.bx b u q).there
    exact (S.bx b u q).mono e (upd_ne (ne hx))
  · obtain ⟨x, hx⟩ := (S.bx b u q).there
    show upd W.F p o b = .none
    rw [upd_ne (ne hx)]
    exact S.dj b u q
  · refine (S.dr t ht).same (fun b i => ?_) (Nat.le_refl _)
    obtain ⟨xs, e⟩ := (S.dr t ht).there i
    exact upd_ne (ne e)
  · obtain ⟨k1, k2⟩ := S.drF b q
    refine ⟨?_, k2⟩
    show upd W.F p o b = .none
    rw [upd_ne]
    · exact k1
    · intro z
      exact n3 (z ▸ q)
  · by_cases hb : b = p
    · subst hb
      rw [upd_same] at q
      rcases q with q | q | ⟨z, q⟩
      · have q' := Option.some.inj q
        subst q'
        exact ho
      · have q' := Option.some.inj q
        subst q'
        exact ho
      · have q' := Option.some.inj q
        subst q'
        exact ho.elim
    · rw [upd_ne hb] at q
      exact S.bd b xs q
theorem Step.new0 {p : Addr} {o : HO} (S : SRel0 G W m H) (h : H p = none) : Step W m H (W.new p o) m (upd H p o) c := by
  have ne : ∀ {b : Addr} {u : HO}, H b = some u → b ≠ p := fun {b u} q z => by rw [z, h] at q; cases q
  refine ⟨le_new (S.none h).1, fun b u q _ _ => ?_, fun b u q k1 k2 _ => ⟨?_, k2⟩, fun _ _ _ q => q, fun b u q => ⟨u, ?_⟩, Nat.le_add_right _ _⟩
  · rw [upd_ne (ne q)]
    exact q
  · show upd W.F p o b = .none
    rw [upd_ne (ne q)]
    exact k1
  · rw [upd_ne (ne q)]
    exact q
/-! ### an object that data does not name yet: written, then frozen -/
def nosO : HO → Prop
  | .lst _ => False
  | .tup _ => False
  | .frz _ _ => False
  | _ => True
theorem SRel0.wrO {p : Addr} {o o' : HO} (S : SRel0 G W m H) (h : H p = some o) (hF : W.F p = .none) (hm : m p = .none) (hd : ¬ drA W p) (ho : nosO o') : SRel0 G W m (upd H p o') := by
  have neF : ∀ {b : Addr} {u : HO}, W.F b = some u → b ≠ p := fun {b u} q z => by rw [z, hF] at q; cases q
  have nem : ∀ {b : Addr} {u : Ob}, m b = some u → b ≠ p := fun {b u} q z => by rw [z, hm] at q; cases q
  refine ⟨fun b u q => ?_, fun b u q => ?_, S.dj, fun t ht => ?_, S.drF, S.dri, S.drn, fun b xs q => ?_⟩
  · rw [upd_ne (neF q)]
    exact S.fz b u q
  · exact (S.bx b u q).mono (Kn.le.refl W) (upd_ne (nem q))
  · exact (S.dr t ht).same (fun b i => upd_ne fun z => hd ⟨t, ht, z ▸ i⟩) (Nat.le_refl _)
  · by_cases hb : b = p
    · subst hb
      rw [upd_same] at q
      rcases q with q | q | ⟨z, q⟩
      · rw [Option.some.inj q] at ho; exact ho.elim
      · rw [Option.some.inj q] at ho; exact ho.elim
      · rw [Option.some.inj q] at ho; exact ho.elim
    · rw [upd_ne hb] at q
      exact S.bd b xs q
theorem Step.wrO {p : Addr} {o' : HO} (a : Step W m H W1 m1 H1 c) (h0 : H p = none) : Step W m H W1 m1 (upd H1 p o') c := by
  have ne : ∀ {b : Addr} {u : HO}, H b = some u → b ≠ p := fun {b u} q z => by rw [z, h0] at q; cases q
  refine ⟨a.le, fun b u q k1 k2 => ?_, a.uk, a.dk, fun b u q => ?_, a.n⟩
  · rw [upd_ne (ne q)]
    exact a.kp b u q k1 k2
  · rw [upd_ne (ne q)]
    exact a.th b u q
theorem SRel0.fro {p : Addr} {o : HO} (S : SRel0 G W m H) (h : H p = some o) (hF : W.F p = .none) (hm : m p = .none) (hd : ¬ drA W p) : SRel0 G (W.new p o) m H := by
  have e := le_new (W := W) (o := o) hF
  refine ⟨fun b u q => ?_, fun b u q => ?_, fun b u q => ?_, S.dr, fun b q => ?_, S.dri, S.drn, S.bd⟩
  · have q' : upd W.F p o b = some u := q
    by_cases hb : b = p
    · subst hb
      rw [upd_same] at q'
      rw [h]
      exact q'
    · rw [upd_ne hb] at q'
      exact S.fz b u q'
  · exact (S.bx b u q).mono e rfl
  · show upd W.F p o b = .none
    rw [upd_ne (fun z => by rw [z, hm] at q; cases q)]
    exact S.dj b u q
  · obtain ⟨k1, k2⟩ := S.drF b q
    refine ⟨?_, k2⟩
    show upd W.F p o b = .none
    rw [upd_ne (fun z => hd (by rw [← z]; exact q))]
    exact k1
theorem Step.fro {p : Addr} {o : HO} (a : Step W m H W1 m1 H1 c) (h0 : H p = none) (hF : W1.F p = none) : Step W m H (W1.new p o) m1 H1 c := by
  have ne : ∀ {b : Addr} {u : HO}, H b = some u → b ≠ p := fun {b u} q z => by rw [z, h0] at q; cases q
  refine ⟨a.le.trans (le_new hF), a.kp, fun b u q k1 k2 k3 => ?_, a.dk, a.th, a.n⟩
  obtain ⟨q1, q2⟩ := a.uk b u q k1 k2 k3
  refine ⟨?_, q2⟩
  show upd W1.F p o b = .none
  rw [upd_ne (ne q)]
  exact q1
/-! ### where one stands: the entry, what may be drawn -/
def RepF (G : Gs) (W : Kn) (fv : List (Str × V)) (fs : List (Nat × D)) : Prop := fv.map (·.1) = fs.map (fun p => G.fld p.1) ∧ RepL G W (fv.map (·.2)) (fs.map (·.2))
theorem RepF.mono (e : Kn.le W W') {fv : List (Str × V)} {fs : List (Nat × D)} (h : RepF G W fv fs) : RepF G W' fv fs := ⟨h.1, RepL.mono e _ h.2⟩
/-- an exception as it stands: its class, its own dict -/
def RepX (G : Gs) (W : Kn) (H : Hp) (x : Ex) (cls : Value) (d : Option Addr) : Prop := cls = .ref (G.cls x.c) ∧ x.c ∈ G.xk ∧ ((x.fs = [] ∧ d = none) ∨ ∃ dd fv, d = some dd ∧ H dd = some (.xd fv) ∧ RepF G W fv x.fs)
structure Xn where
  a : Addr
  c : Nat
  fs : List (Nat × D)
  d : Option Addr
structure Zs (G : Gs) where
  lim : Nat
  en : Kn → Mu → Hp → Prop
  cl : ∀ {W m H W' m' H' c}, SRel0 G W m H → en W m H → Step W m H W' m' H' c → en W' m' H'
  xs : Option (Nat × Xn) := none
  xd : ∀ {W m H}, SRel0 G W m H → en W m H → ∀ i t, xs = some (i, t) → RepX G W H ⟨t.c, t.fs⟩ (.ref (G.cls t.c)) t.d := by intro _ _ _ _ _ _ _ h; cases h
structure SRel {G : Gs} (Z : Zs G) (W : Kn) (m : Mu) (H : Hp) : Prop extends SRel0 G W m H where
  en : Z.en W m H
variable {Z : Zs G}
/-- .. where nothing leaves: a comprehension's turns -/
def Zs.triv (Z : Zs G) : Zs G := { lim := Z.lim, en := fun _ _ _ => True, cl := fun _ _ _ => trivial }
theorem SRel0.triv (S : SRel0 G W m H) : SRel Z.triv W m H := ⟨S, trivial⟩
theorem SRel.step (S : SRel Z W m H) (S' : SRel0 G W' m' H') (st : Step W m H W' m' H' c) : SRel Z W' m' H' := ⟨S', Z.cl S.toSRel0 S.en st⟩
theorem Step.trans (S1 : SRel Z W1 m1 H1) (a : Step W m H W1 m1 H1 c1) (b : Step W1 m1 H1 W2 m2 H2 c2) : Step W m H W2 m2 H2 (c1 + c2) := Step.trans0 S1.toSRel0 a b
theorem SRel.none {b : Addr} (S : SRel Z W m H) (h : H b = .none) : W.F b = .none ∧ m b = .none ∧ ¬ drA W b := S.toSRel0.none h
theorem SRel.new {p : Addr} {o : HO} (S : SRel Z W m H) (h : H p = .none) (ho : seqO o) : SRel Z (W.new p o) m (upd H p o) := S.step (S.toSRel0.new h ho) (Step.new0 (c := 0) S.toSRel0 h)
theorem Step.new {p : Addr} {o : HO} (S : SRel Z W m H) (h : H p = .none) : Step W m H (W.new p o) m (upd H p o) c := Step.new0 S.toSRel0 h
/-! ### slots -/
structure SlotR {G : Gs} (Z : Zs G) (W : Kn) (σ : Env) (s : List (Option V)) : Prop where
  len : σ.length = s.length
  ex : ∀ (i : Nat) (c : Nat) (fs : List (Nat × D)), σ[i]? = some (.exn c fs) → ∃ t, Z.xs = some (i, t) ∧ c = t.c ∧ fs = t.fs ∧ s[i]? = some (some (.ref t.a))
  at_ : ∀ (i : Nat) (d : D), σ[i]? = some d → isUn d = false → ∃ v, s[i]? = some (some v) ∧ Rep G W v d
theorem SlotR.triv {σ : Env} {s : List (Option V)} (h : SlotR Z W σ s) (hx : Z.xs = none) : SlotR Z.triv W σ s := by
  refine ⟨h.len, fun i c fs e => ?_, h.at_⟩
  obtain ⟨t, e1, _⟩ := h.ex i c fs e
  rw [hx] at e1
  cases e1
theorem SlotR.mono {σ : Env} {s : List (Option V)} (e : Kn.le W W') (h : SlotR Z W σ s) : SlotR Z W' σ s :=
  ⟨h.len, h.ex, fun i d q u => let ⟨v, h1, h2⟩ := h.at_ i d q u; ⟨v, h1, Rep.mono e d h2⟩⟩
theorem set_get {α : Type} {l : List α} {i j : Nat} {x y : α} (e : (l.set i x)[j]? = some y) : (i = j ∧ i < l.length ∧ y = x) ∨ (i ≠ j ∧ l[j]? = some y) := by
  by_cases hj : i = j
  · subst hj
    by_cases hi : i < l.length
    · rw [List.getElem?_set_self hi] at e
      exact .inl ⟨rfl, hi, (Option.some.inj e).symm⟩
    · rw [List.getElem?_eq_none (by simpa using hi)] at e
      cases e
  · rw [List.getElem?_set_ne hj] at e
    exact .inr ⟨hj, e⟩
theorem SlotR.set {σ : Env} {s : List (Option V)} {i : Nat} {d : D} {v : V} (h : SlotR Z W σ s) (r : Rep G W v d) : SlotR Z W (σ.set i d) (s.set i (some v)) := by
  refine ⟨by simp [h.len], fun j c fs q => ?_, fun j e q u => ?_⟩
  · rcases set_get q with ⟨_, _, e⟩ | ⟨hj, e⟩
    · rw [← e] at r
      cases r
    · rw [List.getElem?_set_ne hj]
      exact h.ex j c fs e
  · rcases set_get q with ⟨rfl, hi, e⟩ | ⟨hj, e⟩
    · rw [List.getElem?_set_self (by rw [← h.len]; exact hi), e]
      exact ⟨v, rfl, r⟩
    · rw [List.getElem?_set_ne hj]
      exact h.at_ j _ e u
/-- a name that loses its value -/
theorem SlotR.unset {σ : Env} {s : List (Option V)} (h : SlotR Z W σ s) (i : Nat) : SlotR Z W (σ.set i .un) (s.set i none) := by
  refine ⟨by simp [h.len], fun j c fs q => ?_, fun j e q u => ?_⟩
  · rcases set_get q with ⟨_, _, e⟩ | ⟨hj, e⟩
    · cases e
    · rw [List.getElem?_set_ne hj]
      exact h.ex j c fs e
  · rcases set_get q with ⟨rfl, hi, e⟩ | ⟨hj, e⟩
    · rw [e] at u
      cases u
    · rw [List.getElem?_set_ne hj]
      exact h.at_ j _ e u
theorem SlotR.wipe {σ : Env} {s : List (Option V)} (h : SlotR Z W σ s) : ∀ vs : List Nat, SlotR Z W (wipeE σ vs) (L2.wipe s vs)
  | [] => h
  | v :: vs => SlotR.unset (SlotR.wipe h vs) v
/-! ### what is wanted of an expression, of operands -/
abbrev Wp := Env → Mu → Pq → Prop
def tE {G : Gs} (Z : Zs G) (w : Wp) (c : Nat) : TE := fun s H QV => ∃ (W : Kn) (m : Mu) (σ : Env) (Q : Pq), w σ m Q ∧ SRel Z W m H ∧ SlotR Z W σ s ∧ W.n + c ≤ Z.lim ∧
  ∀ d m' v H' W', Step W m H W' m' H' c → SRel Z W' m' H' → Rep G W' v d → Q d m' → QV v H'
def tT {G : Gs} (Z : Zs G) (w : Env → Mu → (Bool → Mu → Prop) → Prop) (c : Nat) : TT := fun s H QV => ∃ (W : Kn) (m : Mu) (σ : Env) (Q : Bool → Mu → Prop), w σ m Q ∧ SRel Z W m H ∧ SlotR Z W σ s ∧ W.n + c ≤ Z.lim ∧
  ∀ d m' H' W', Step W m H W' m' H' c → SRel Z W' m' H' → Q d m' → QV d H'
def tA {G : Gs} (Z : Zs G) (w : Env → Mu → (List D → Mu → Prop) → Prop) (c n : Nat) : TA := fun s H QV => ∃ (W : Kn) (m : Mu) (σ : Env) (Q : List D → Mu → Prop), w σ m Q ∧ SRel Z W m H ∧ SlotR Z W σ s ∧ W.n + c ≤ Z.lim ∧
  ∀ ds m' vs H' W', ds.length = n → Step W m H W' m' H' c → SRel Z W' m' H' → RepL G W' vs ds → Q ds m' → QV vs H'
/-- a reading that asks less -/
theorem PE.of {X : Cx} {e : Expr} {t t' : TE} (h : PE X e t) (i : ∀ s H Q, t' s H Q → t s H Q) : PE X e t' := ⟨fun pins s σ H Q I q => h.run pins s σ H Q I (i _ _ _ q)⟩
theorem PT.of {X : Cx} {e : Expr} {t t' : TT} (h : PT X e t) (i : ∀ s H Q, t' s H Q → t s H Q) : PT X e t' := ⟨fun pins s σ H Q I q => h.run pins s σ H Q I (i _ _ _ q)⟩
theorem PA.of {X : Cx} {e : List Expr} {t t' : TA} (h : PA X e t) (i : ∀ s H Q, t' s H Q → t s H Q) : PA X e t' := ⟨fun pos pins s σ H Q I q => h.run pos pins s σ H Q I (i _ _ _ q)⟩
/-- where rd finds a list, a list stands -/
theorem rd_lst {x : V} {d : D} {ds : List D} (S : SRel Z W m H) (r : Rep G W x d) (e : rd m d = .lst ds) : ∃ a xs, x = .ref a ∧ H a = some (.lst xs) ∧ RepL G W xs ds := by
  cases d with
  | lst es =>
    cases r with
    | lst h1 h2 =>
      cases e
      exact ⟨_, _, rfl, S.fz _ _ h1, h2⟩
  | ref a =>
    cases r
    unfold rd at e
    cases q : m a with
    | none => simp [q] at e
    | some o =>
      cases o with
      | lst es =>
        simp only [q] at e
        cases e
        obtain ⟨vs, h1, h2⟩ := S.bx a _ q
        exact ⟨a, vs, rfl, h1, h2⟩
      | dct _ => simp [q] at e
      | ins _ _ => simp [q] at e
  | _ => cases e
theorem sqT_H0 (S : SRel0 G W m H) {a : Addr} {xs : List V} (h : SqT G.K W.F a xs) : SqT G.K H a xs := by
  rcases h with (h | ⟨o, h⟩) | h
  · exact .inl (.inl (S.fz _ _ h))
  · exact .inl (.inr ⟨o, S.fz _ _ h⟩)
  · exact .inr h
theorem sqT_H (S : SRel Z W m H) {a : Addr} {xs : List V} (h : SqT G.K W.F a xs) : SqT G.K H a xs := by
  rcases h with (h | ⟨o, h⟩) | h
  · exact .inl (.inl (S.fz _ _ h))
  · exact .inl (.inr ⟨o, S.fz _ _ h⟩)
  · exact .inr h
theorem tup_len (S : SRel Z W m H) {a : Addr} {xs : List V} (h : SqT G.K W.F a xs) : xs.length ≤ sizeLine := by
  rcases h with (h | ⟨o, h⟩) | h
  · exact S.bd a xs (.inr (.inl (S.fz _ _ h)))
  · exact S.bd a xs (.inr (.inr ⟨o, S.fz _ _ h⟩))
  · obtain ⟨o, its, n, _, _, _, h2, h3⟩ := h
    rw [h3.length]
    simpa using h2
theorem sqL_H0 (S : SRel0 G W m H) {a : Addr} {xs : List V} (h : SqL G.K W.F a xs) : SqL G.K H a xs := by
  rcases h with (h | ⟨o, h⟩) | h
  · exact .inl (.inl (S.fz _ _ h))
  · exact .inl (.inr ⟨o, S.fz _ _ h⟩)
  · exact .inr h
theorem sqL_H (S : SRel Z W m H) {a : Addr} {xs : List V} (h : SqL G.K W.F a xs) : SqL G.K H a xs := by
  rcases h with (h | ⟨o, h⟩) | h
  · exact .inl (.inl (S.fz _ _ h))
  · exact .inl (.inr ⟨o, S.fz _ _ h⟩)
  · exact .inr h
theorem rd_tup {x : V} {d : D} {ds : List D} (S : SRel Z W m H) (r : Rep G W x d) (e : rd m d = .tup ds) : ∃ a xs, x = .ref a ∧ SqT G.K H a xs ∧ RepL G W xs ds := by
  cases d with
  | tup es =>
    cases r with
    | tup h1 h2 =>
      cases e
      exact ⟨_, _, rfl, sqT_H S h1, h2⟩
  | ref a =>
    unfold rd at e
    cases q : m a with
    | none => simp [q] at e
    | some o => cases o <;> simp [q] at e
  | _ => cases e
theorem rd_int {x : V} {d : D} {i : Int} (r : Rep G W x d) (e : rd m d = .int i) : x = .int i := by
  cases d with
  | int j => cases r; cases e; rfl
  | ref a =>
    unfold rd at e
    cases q : m a with
    | none => simp [q] at e
    | some o => cases o <;> simp [q] at e
  | _ => cases e
theorem rd_bl {x : V} {d : D} {i : Bool} (r : Rep G W x d) (e : rd m d = .bl i) : x = .bl i := by
  cases d with
  | bl j => cases r; cases e; rfl
  | ref a =>
    unfold rd at e
    cases q : m a with
    | none => simp [q] at e
    | some o => cases o <;> simp [q] at e
  | _ => cases e
theorem rd_non {x : V} {d : D} (r : Rep G W x d) (e : rd m d = .non) : x = .non := by
  cases d with
  | non => cases r; rfl
  | ref a =>
    unfold rd at e
    cases q : m a with
    | none => simp [q] at e
    | some o => cases o <;> simp [q] at e
  | _ => cases e
theorem rd_str {x : V} {d : D} {i : List Nat} (r : Rep G W x d) (e : rd m d = .str i) : x = .str ⟨i.toArray⟩ := by
  cases d with
  | str j => cases r; cases e; rfl
  | ref a =>
    unfold rd at e
    cases q : m a with
    | none => simp [q] at e
    | some o => cases o <;> simp [q] at e
  | _ => cases e
end
end Pk

/-! Boxes: written, made, frozen. -/
namespace Pk
open PySem L2
section
variable {G : Gs} {Z : Zs G}
theorem SRel0.wr {W : Kn} {m : Mu} {H : Hp} {p : Addr} {ds ds' : List D} {vs' : List V} (S : SRel0 G W m H) (hp : m p = some (.lst ds)) (r : RepL G W vs' ds') (hl : vs'.length ≤ sizeLine) :
    SRel0 G W (mup m p (some (.lst ds'))) (upd H p (.lst vs')) ∧ Step W m H W (mup m p (some (.lst ds'))) (upd H p (.lst vs')) 0 := by
  have hF := S.dj p _ hp
  have hd : ¬ drA W p := fun q => by have := (S.drF p q).2; rw [hp] at this; cases this
  have me : ∀ {b : Addr}, b ≠ p → mup m p (some (.lst ds')) b = m b := fun {b} hb => by show (if b = p then _ else m b) = m b; rw [if_neg hb]
  have mp : mup m p (some (.lst ds')) p = some (.lst ds') := by show (if p = p then _ else _) = _; rw [if_pos rfl]
  refine ⟨⟨fun b u q => ?_, fun b u q => ?_, fun b u q => ?_, fun t ht => ?_, fun b q => ?_, S.dri, S.drn, fun b xs q => ?_⟩, ⟨Kn.le.refl _, fun b o q k1 k2 => ?_, fun b o q k1 k2 k3 => ?_, fun _ _ _ q => q, fun b o q => ?_, Nat.le_add_right _ _⟩⟩
  · have : b ≠ p := fun z => by rw [z, hF] at q; cases q
    rw [upd_ne this]
    exact S.fz b u q
  · by_cases hb : b = p
    · subst hb
      rw [mp] at q
      cases q
      exact ⟨vs', upd_same, r⟩
    · rw [me hb] at q
      exact (S.bx b u q).mono (Kn.le.refl W) (upd_ne hb)
  · by_cases hb : b = p
    · rw [hb]; exact hF
    · rw [me hb] at q
      exact S.dj b u q
  · exact (S.dr t ht).same (fun b i => upd_ne fun z => hd ⟨t, ht, z ▸ i⟩) (Nat.le_refl _)
  · obtain ⟨k1, k2⟩ := S.drF b q
    have : b ≠ p := fun z => hd (z ▸ q)
    exact ⟨k1, (me this).trans k2⟩
  · by_cases hb : b = p
    · subst hb
      rw [upd_same] at q
      rcases q with q | q | ⟨z, q⟩
      · cases q; exact hl
      · cases q
      · cases q
    · rw [upd_ne hb] at q
      exact S.bd b xs q
  · have : b ≠ p := fun z => by rw [z, hp] at k1; cases k1
    rw [upd_ne this]
    exact q
  · have : b ≠ p := fun z => by rw [z, hp] at k2; cases k2
    exact ⟨k1, (me this).trans k2⟩
  · by_cases hb : b = p
    · rw [hb]; exact ⟨_, upd_same⟩
    · exact ⟨o, by rw [upd_ne hb]; exact q⟩
theorem SRel0.box {W : Kn} {m : Mu} {H : Hp} {p : Addr} {ds : List D} {vs : List V} (S : SRel0 G W m H) (hp : H p = .none) (r : RepL G W vs ds) (hl : vs.length ≤ sizeLine) :
    SRel0 G W (mup m p (some (.lst ds))) (upd H p (.lst vs)) ∧ Step W m H W (mup m p (some (.lst ds))) (upd H p (.lst vs)) 0 := by
  obtain ⟨hF, hm, hd⟩ := S.none hp
  have ne : ∀ {b : Addr} {u : HO}, H b = some u → b ≠ p := fun {b u} q z => by rw [z, hp] at q; cases q
  have me : ∀ {b : Addr}, b ≠ p → mup m p (some (.lst ds)) b = m b := fun {b} hb => by show (if b = p then _ else m b) = m b; rw [if_neg hb]
  have mp : mup m p (some (.lst ds)) p = some (.lst ds) := by show (if p = p then _ else _) = _; rw [if_pos rfl]
  refine ⟨⟨fun b u q => ?_, fun b u q => ?_, fun b u q => ?_, fun t ht => ?_, fun b q => ?_, S.dri, S.drn, fun b xs q => ?_⟩, ⟨Kn.le.refl _, fun b o q k1 k2 => ?_, fun b o q k1 k2 k3 => ?_, fun _ _ _ q => q, fun b o q => ?_, Nat.le_add_right _ _⟩⟩
  · rw [upd_ne (ne (S.fz b u q))]
    exact S.fz b u q
  · by_cases hb : b = p
    · subst hb
      rw [mp] at q
      cases q
      exact ⟨vs, upd_same, r⟩
    · rw [me hb] at q
      exact (S.bx b u q).mono (Kn.le.refl W) (upd_ne hb)
  · by_cases hb : b = p
    · rw [hb]; exact hF
    · rw [me hb] at q
      exact S.dj b u q
  · exact (S.dr t ht).same (fun b i => upd_ne fun z => hd ⟨t, ht, z ▸ i⟩) (Nat.le_refl _)
  · obtain ⟨k1, k2⟩ := S.drF b q
    have : b ≠ p := fun z => hd (z ▸ q)
    exact ⟨k1, (me this).trans k2⟩
  · by_cases hb : b = p
    · subst hb
      rw [upd_same] at q
      rcases q with q | q | ⟨z, q⟩
      · cases q; exact hl
      · cases q
      · cases q
    · rw [upd_ne hb] at q
      exact S.bd b xs q
  · rw [upd_ne (ne q)]
    exact q
  · exact ⟨k1, (me (ne q)).trans k2⟩
  · exact ⟨o, by rw [upd_ne (ne q)]; exact q⟩
theorem SRel0.frz {W : Kn} {m : Mu} {H : Hp} {p : Addr} {ds : List D} (S : SRel0 G W m H) (hp : m p = some (.lst ds)) :
    ∃ W', SRel0 G W' (mup m p .none) H ∧ Step W m H W' (mup m p .none) H 0 ∧ Rep G W' (.ref p) (.lst ds) := by
  have hF := S.dj p _ hp
  obtain ⟨vs, e1, e2⟩ := S.bx p _ hp
  have hd : ¬ drA W p := fun q => by have := (S.drF p q).2; rw [hp] at this; cases this
  have me : ∀ {b : Addr}, b ≠ p → mup m p .none b = m b := fun {b} hb => by show (if b = p then _ else m b) = m b; rw [if_neg hb]
  have mp : mup m p .none p = .none := by show (if p = p then _ else _) = _; rw [if_pos rfl]
  have le := le_new (W := W) (o := .lst vs) hF
  have Fe : ∀ {b : Addr}, b ≠ p → (W.new p (.lst vs)).F b = W.F b := fun {b} hb => by show upd W.F p _ b = _; rw [upd_ne hb]
  have Fp : (W.new p (.lst vs)).F p = some (.lst vs) := by show upd W.F p _ p = _; rw [upd_same]
  refine ⟨W.new p (.lst vs), ⟨fun b u q => ?_, fun b u q => ?_, fun b u q => ?_, S.dr, fun b q => ?_, S.dri, S.drn, S.bd⟩, ⟨le, fun b o q k1 k2 => q, fun b o q k1 k2 k3 => ?_, fun _ _ _ q => q, fun b o q => ⟨o, q⟩, Nat.le_add_right _ _⟩, .lst Fp (RepL.mono le _ e2)⟩
  · by_cases hb : b = p
    · rw [hb] at q ⊢
      rw [Fp] at q
      rw [e1]
      exact q
    · rw [Fe hb] at q
      exact S.fz b u q
  · have hb : b ≠ p := fun z => by rw [z, mp] at q; cases q
    rw [me hb] at q
    exact (S.bx b u q).mono le rfl
  · have hb : b ≠ p := fun z => by rw [z, mp] at q; cases q
    rw [me hb] at q
    rw [Fe hb]
    exact S.dj b u q
  · obtain ⟨k1, k2⟩ := S.drF b q
    have hb : b ≠ p := fun z => hd (z ▸ q)
    exact ⟨(Fe hb).trans k1, (me hb).trans k2⟩
  · have hb : b ≠ p := fun z => by rw [z, hp] at k2; cases k2
    exact ⟨(Fe hb).trans k1, (me hb).trans k2⟩
theorem SRel.wr {W : Kn} {m : Mu} {H : Hp} {p : Addr} {ds ds' : List D} {vs' : List V} (S : SRel Z W m H) (hp : m p = some (.lst ds)) (r : RepL G W vs' ds') (hl : vs'.length ≤ sizeLine) :
    SRel Z W (mup m p (some (.lst ds'))) (upd H p (.lst vs')) ∧ Step W m H W (mup m p (some (.lst ds'))) (upd H p (.lst vs')) 0 :=
  let ⟨a, b⟩ := S.toSRel0.wr hp r hl
  ⟨S.step a b, b⟩
theorem SRel.box {W : Kn} {m : Mu} {H : Hp} {p : Addr} {ds : List D} {vs : List V} (S : SRel Z W m H) (hp : H p = .none) (r : RepL G W vs ds) (hl : vs.length ≤ sizeLine) :
    SRel Z W (mup m p (some (.lst ds))) (upd H p (.lst vs)) ∧ Step W m H W (mup m p (some (.lst ds))) (upd H p (.lst vs)) 0 :=
  let ⟨a, b⟩ := S.toSRel0.box hp r hl
  ⟨S.step a b, b⟩
theorem SRel.frz {W : Kn} {m : Mu} {H : Hp} {p : Addr} {ds : List D} (S : SRel Z W m H) (hp : m p = some (.lst ds)) : ∃ W', SRel Z W' (mup m p .none) H ∧ Step W m H W' (mup m p .none) H 0 ∧ Rep G W' (.ref p) (.lst ds) :=
  let ⟨W', a, b, c⟩ := S.toSRel0.frz hp
  ⟨W', S.step a b, b, c⟩
theorem RepL.set {W : Kn} : ∀ {vs : List V} {ds : List D} {v : V} {d : D} (n : Nat), RepL G W vs ds → Rep G W v d → RepL G W (vs.set n v) (ds.set n d)
  | _, _, _, _, _, .nil, _ => .nil
  | _, _, _, _, 0, .cons h1 h2, r => .cons r h2
  | _, _, _, _, n + 1, .cons h1 h2, r => .cons h1 (RepL.set n h2 r)
end
end Pk

/-! Operators, comparisons, truth, subscripts: by values. -/
namespace Pk
open PySem L2
theorem line_eq : line = sizeLine := by decide +kernel
section
variable {G : Gs} {Z : Zs G} {X : Cx} {W : Kn} {m : Mu} {H : Hp}
/-- two operands' reading: R of what is read at them -/
def rO {G : Gs} (Z : Zs G) (R : D → D → (D → Prop) → Prop) : R2 := fun x y H QV => ∃ (W : Kn) (m : Mu) (dx dy : D) (Q : D → Prop), R (rd m dx) (rd m dy) Q ∧ SRel Z W m H ∧ Rep G W x dx ∧ Rep G W y dy ∧
  ∀ d v H' W', Step W m H W' m H' 0 → SRel Z W' m H' → Rep G W' v d → Q d → QV v H'
theorem RepL.rep : ∀ (n : Nat) {vs : List V} {ds : List D}, RepL G W vs ds → RepL G W (List.replicate n vs).flatten (List.replicate n ds).flatten
  | 0, _, _, _ => .nil
  | n + 1, _, _, h => by
    rw [List.replicate_succ, List.replicate_succ, List.flatten_cons, List.flatten_cons]
    exact h.append (RepL.rep n h)
theorem rep_len {α : Type} (n : Nat) (xs : List α) : (List.replicate n xs).flatten.length = xs.length * n := by
  induction n with
  | zero => rfl
  | succ n ih =>
    rw [List.replicate_succ, List.flatten_cons, List.length_append, ih, Nat.mul_succ]
    omega
theorem rep_arr (s : List Nat) (n : Nat) : (List.replicate n s.toArray).foldl (· ++ ·) #[] = (List.replicate n s).flatten.toArray := by
  have key : ∀ (n : Nat) (acc : List Nat), (List.replicate n s.toArray).foldl (· ++ ·) acc.toArray = (acc ++ (List.replicate n s).flatten).toArray := by
    intro n
    induction n with
    | zero => intro acc; simp
    | succ n ih =>
      intro acc
      rw [List.replicate_succ, List.foldl_cons, List.replicate_succ, List.flatten_cons, ← List.append_assoc]
      have e : acc.toArray ++ s.toArray = (acc ++ s).toArray := by simp
      rw [e]
      exact ih (acc ++ s)
  exact key n []
/-- a text times a number -/
theorem op_mulStr : OpR X (binaryOp .Mult) (fun x y H Q => ∃ (s : List Nat) (k : Int), x = .str ⟨s.toArray⟩ ∧ y = .int k ∧ 0 ≤ k ∧ k ≤ line ∧ s.length * k.toNat ≤ line ∧ Q (.str ⟨(List.replicate k.toNat s).flatten.toArray⟩) H) := by
  intro pins s σ H x y v u Q I rx ry h
  obtain ⟨z, k, rfl, rfl, h0, h1, h2, q⟩ := h
  obtain ⟨t, rfl⟩ := rx
  obtain ⟨t2, rfl⟩ := ry
  have h1' : k ≤ 16777216 := h1
  have h2' : z.length * k.toNat ≤ 16777216 := h2
  have hlen : Str.length ⟨z.toArray⟩ = z.length := by show z.toArray.size = _; simp
  have fin : ∀ w : Value, RelV (.str ⟨(List.replicate k.toNat z).flatten.toArray⟩) w → ∀ tk, EP X pins σ Q w { s with toks := tk } := fun w r tk => ⟨_, H, I.tok _, r, q⟩
  refine P.mul_str ?_ ?_ ?_ ?_
  · have e1 : ¬ k < -(2 ^ 63 : Int) := by omega
    have e2 : ¬ k ≥ 2 ^ 63 := by omega
    rw [decide_eq_false e1, decide_eq_false e2]
    rfl
  · intro g1 g2 g3
    rw [hlen] at g3
    have hk : 0 < k := by omega
    have hk' : ((k.toNat : Nat) : Int) = k := Int.toNat_of_nonneg h0
    have e3 : (z.length : Int) * k ≤ 16777216 := by
      rw [← hk', ← Int.natCast_mul]
      exact Int.ofNat_le.mpr h2'
    have e4 : (z.length : Int) ≤ (2 ^ 63 - 1) / k := by
      refine Int.le_ediv_of_mul_le hk ?_
      omega
    omega
  · intro g1 g2
    rw [hlen]
    unfold Builtin.Str.tooLong
    exact decide_eq_false (by show ¬ _ > 16777216; omega)
  · split
    · rename_i g
      have hk : k = 0 := by omega
      subst hk
      refine ⟨by decide, ?_⟩
      exact fin (.str Str.empty s.toks) ⟨_, rfl⟩ _
    · split
      · rename_i g1 g2
        have e : (List.replicate k.toNat z).flatten = z := by
          rw [Bool.or_eq_true] at g2
          rcases g2 with g2 | g2
          · have : k = 1 := by simpa using g2
            subst this
            simp
          · have hz : z = [] := by
              have : z.length = 0 := by rw [← hlen]; simpa using g2
              exact List.eq_nil_of_length_eq_zero this
            subst hz
            have : ∀ n, (List.replicate n ([] : List Nat)).flatten = [] := by intro n; induction n with | zero => rfl | succ n ih => rw [List.replicate_succ, List.flatten_cons, ih]; rfl
            exact this _
        rw [e] at fin
        exact fin (.str ⟨z.toArray⟩ t) ⟨_, rfl⟩ s.toks
      · rename_i g1 g2
        have e : (⟨(List.replicate k.toNat (Str.cps ⟨z.toArray⟩)).foldl (· ++ ·) #[]⟩ : Str) = ⟨(List.replicate k.toNat z).flatten.toArray⟩ := by
          show (⟨(List.replicate k.toNat z.toArray).foldl (· ++ ·) #[]⟩ : Str) = _
          rw [rep_arr]
        rw [e]
        refine ⟨?_, fin _ ⟨_, rfl⟩ _⟩
        show _ ≤ sizeLine
        rw [← line_eq]
        show (List.replicate k.toNat z).flatten.toArray.size ≤ _
        rw [List.size_toArray, rep_len]
        exact h2
theorem opOk (hK : X.K = G.K) (o : O2) : OpR X (binaryOp (opP o)) (rO Z (opR o)) := by
  intro pins s σ H x y v u Q I rx ry h
  obtain ⟨W, m, dx, dy, Qd, hr, S, r1, r2, k⟩ := h
  have kk : ∀ d v, Rep G W v d → Qd d → Q v H := fun d v r q => k d v H W (Step.refl ..) S r q
  unfold opR at hr
  split at hr
  · rename_i e1 e2
    exact op_add pins s σ H x y v u Q I rx ry ⟨_, _, rd_int r1 e1, rd_int r2 e2, kk _ _ (.int _) hr⟩
  · rename_i e1 e2
    exact op_sub pins s σ H x y v u Q I rx ry ⟨_, _, rd_int r1 e1, rd_int r2 e2, kk _ _ (.int _) hr⟩
  · rename_i e1 e2
    exact op_mul pins s σ H x y v u Q I rx ry ⟨_, _, rd_int r1 e1, rd_int r2 e2, hr.1, kk _ _ (.int _) hr.2⟩
  · rename_i a b e1 e2
    exact op_mulStr pins s σ H x y v u Q I rx ry ⟨a, b, rd_str r1 e1, rd_int r2 e2, hr.1.1, hr.1.2.1, hr.1.2.2, kk _ _ (.str _) hr.2⟩
  · rename_i a b e1 e2
    obtain ⟨p, xs, rfl, h1, q1⟩ := rd_lst S r1 e1
    have e3 := rd_int r2 e2
    subst e3
    obtain ⟨⟨k1, k2, k3⟩, hr⟩ := hr
    have k2' : b ≤ 16777216 := k2
    have hl : xs.length * b.toNat ≤ sizeLine := by rw [q1.length, ← line_eq]; exact k3
    refine op_rep pins s σ H _ _ v u Q I rx ry ⟨p, b, xs, rfl, rfl, h1, by omega, by omega, hl, fun l hl2 => ?_⟩
    have S' := S.new (o := .lst (List.replicate b.toNat xs).flatten) hl2 (by show (List.replicate b.toNat xs).flatten.length ≤ sizeLine; rw [rep_len]; exact hl)
    refine k _ _ _ _ (Step.new S hl2) S' (.lst (xs := (List.replicate b.toNat xs).flatten) ?_ ((RepL.rep b.toNat q1).mono (le_new (S.none hl2).1))) hr
    exact upd_same
  · rename_i e1 e2
    exact op_fdiv pins s σ H x y v u Q I rx ry ⟨_, _, rd_int r1 e1, rd_int r2 e2, hr.1, kk _ _ (.int _) hr.2⟩
  · rename_i e1 e2
    exact op_mod pins s σ H x y v u Q I rx ry ⟨_, _, rd_int r1 e1, rd_int r2 e2, hr.1, kk _ _ (.int _) hr.2⟩
  · rename_i e1 e2
    exact op_pow pins s σ H x y v u Q I rx ry ⟨_, _, rd_int r1 e1, rd_int r2 e2, hr.1, kk _ _ (.int _) hr.2⟩
  · rename_i e1 e2
    exact op_shl pins s σ H x y v u Q I rx ry ⟨_, _, rd_int r1 e1, rd_int r2 e2, hr.1, kk _ _ (.int _) hr.2⟩
  · rename_i e1 e2
    exact op_shr pins s σ H x y v u Q I rx ry ⟨_, _, rd_int r1 e1, rd_int r2 e2, hr.1, kk _ _ (.int _) hr.2⟩
  · rename_i e1 e2
    exact op_and pins s σ H x y v u Q I rx ry ⟨_, _, rd_int r1 e1, rd_int r2 e2, kk _ _ (.int _) hr⟩
  · rename_i e1 e2
    exact op_or pins s σ H x y v u Q I rx ry ⟨_, _, rd_int r1 e1, rd_int r2 e2, kk _ _ (.int _) hr⟩
  · rename_i a b e1 e2
    refine op_add_str pins s σ H x y v u Q I rx ry ⟨_, _, rd_str r1 e1, rd_str r2 e2, ?_, ?_⟩
    · rw [← line_eq]
      exact hr.1
    · have e : ((⟨a.toArray⟩ : Str) ++ (⟨b.toArray⟩ : Str)) = (⟨(a ++ b).toArray⟩ : Str) := by
        show (⟨a.toArray ++ b.toArray⟩ : Str) = _
        simp
      rw [e]
      exact kk _ _ (.str _) hr.2
  · rename_i a b e1 e2
    obtain ⟨p, xs, rfl, h1, q1⟩ := rd_lst S r1 e1
    obtain ⟨p2, ys, rfl, h2, q2⟩ := rd_lst S r2 e2
    have hl : xs.length + ys.length ≤ sizeLine := by
      rw [q1.length, q2.length, ← line_eq]
      exact hr.1
    refine op_cat pins s σ H _ _ v u Q I rx ry ⟨p, p2, xs, ys, rfl, rfl, h1, h2, hl, fun l hl2 => ?_⟩
    have S' := S.new (o := .lst (xs ++ ys)) hl2 (by show (xs ++ ys).length ≤ sizeLine; simpa using hl)
    refine k _ _ _ _ (Step.new S hl2) S' (.lst (xs := xs ++ ys) ?_ ((q1.append q2).mono (le_new (S.none hl2).1))) hr.2
    exact upd_same
  · rename_i a b e1 e2
    obtain ⟨p, xs, rfl, h1, q1⟩ := rd_tup S r1 e1
    obtain ⟨p2, ys, rfl, h2, q2⟩ := rd_tup S r2 e2
    have hl : xs.length + ys.length ≤ sizeLine := by
      rw [q1.length, q2.length, ← line_eq]
      exact hr.1.2
    refine op_catT pins s σ H _ _ v u Q I rx ry ⟨p, p2, xs, ys, rfl, rfl, by rw [hK]; exact h1, by rw [hK]; exact h2, fun z => hr.1.1 ?_, hl, fun z => ?_, fun _ l hl2 => ?_⟩
    · have := q1.length
      rw [z] at this
      exact List.eq_nil_of_length_eq_zero this.symm
    · have h3 := q2.length
      rw [z] at h3
      have hb : b = [] := List.eq_nil_of_length_eq_zero h3.symm
      have hd : rd m dx = .tup a := e1
      have q := hr.2
      rw [hb, List.append_nil] at q
      cases dx with
      | tup es =>
        cases hd
        exact kk _ _ r1 q
      | ref a' =>
        unfold rd at hd
        cases z2 : m a' with
        | none => simp [z2] at hd
        | some o => cases o <;> simp [z2] at hd
      | _ => cases hd
    · have S' := S.new (o := .tup (xs ++ ys)) hl2 (by show (xs ++ ys).length ≤ sizeLine; simpa using hl)
      refine k _ _ _ _ (Step.new S hl2) S' (.tup (xs := xs ++ ys) (.inl (.inl ?_)) ((q1.append q2).mono (le_new (S.none hl2).1))) hr.2
      exact upd_same
  · exact hr.elim

/-! ### comparisons -/
def rC {G : Gs} (Z : Zs G) (c : C2) : R2 := fun x y H QV => ∃ (W : Kn) (m : Mu) (dx dy : D) (Q : Bool → Prop), cmpR c (rd m dx) (rd m dy) Q ∧ SRel Z W m H ∧ Rep G W x dx ∧ Rep G W y dy ∧ ∀ k, Q k → QV (.bl k) H
theorem sltB_eq : ∀ a b : List Nat, sltB a b = decide (a < b)
  | [], [] => by simp [sltB]
  | [], _ :: _ => by simp [sltB]
  | _ :: _, [] => by simp [sltB]
  | a :: s, b :: t => by
    have ih := sltB_eq s t
    apply Bool.eq_iff_iff.mpr
    unfold sltB
    rw [ih]
    simp only [Bool.or_eq_true, Bool.and_eq_true, decide_eq_true_eq, List.cons_lt_cons_iff]
mutual
def pyD : D → PyData
  | .non => .none
  | .bl b => .bool b
  | .int i => .int i
  | .str s => .str ⟨s.toArray⟩
  | .tup ds => .tuple (pyL ds)
  | .lst ds => .list (pyL ds)
  | _ => .none
def pyL : List D → List PyData
  | [] => []
  | d :: ds => pyD d :: pyL ds
end
mutual
theorem dp_of (hK : X.K = G.K) (S : SRel Z W m H) : ∀ (n : Nat) (d : D) (v : V), Rep G W v d → flatD n d = true → Dp X.K H v (pyD d)
  | _, .non, _, h, _ => by cases h; exact .non
  | _, .bl _, _, h, _ => by cases h; exact .bl _
  | _, .int _, _, h, _ => by cases h; exact .int _
  | _, .str _, _, h, _ => by cases h; exact .str _
  | 0, .tup _, _, _, f => by cases f
  | 0, .lst _, _, _, f => by cases f
  | n + 1, .tup ds, _, h, f => by
    cases h with
    | tup h1 h2 => exact .tup (by rw [hK]; exact sqT_H S h1) (dp_ofL hK S n ds _ h2 f)
  | n + 1, .lst ds, _, h, f => by
    cases h with
    | lst h1 h2 => exact .lst (.of (S.fz _ _ h1)) (dp_ofL hK S n ds _ h2 f)
  | n, .un, _, h, f => by cases h
  | n, .dct _, _, h, f => by cases h
  | n, .obj _ _, _, h, f => by cases n <;> cases f
  | n, .ref _, _, h, f => by cases n <;> cases f
  | n, .st _, _, h, f => by cases n <;> cases f
  | n, .fn _, _, h, f => by cases h
  | n, .scr _, _, h, f => by cases n <;> cases f
theorem dp_ofL (hK : X.K = G.K) (S : SRel Z W m H) : ∀ (n : Nat) (ds : List D) (vs : List V), RepL G W vs ds → flatL n ds = true → DpAll X.K H vs (pyL ds)
  | _, [], _, h, _ => by cases h; exact .nil
  | n, d :: ds, _, h, f => by
    cases h with
    | cons h1 h2 =>
      have f' : (flatD n d && flatL n ds) = true := by
        have f0 := f
        unfold flatL at f0
        exact f0
      obtain ⟨f1, f2⟩ := Bool.and_eq_true_iff.mp f'
      exact .cons (dp_of hK S n d _ h1 f1) (dp_ofL hK S n ds _ h2 f2)
end
mutual
theorem shp_of : ∀ (n : Nat) (d : D), flatD n d = true → (pyD d).canLay0 = true ∧ (pyD d).depth ≤ n
  | n, .non, _ => ⟨rfl, Nat.zero_le _⟩
  | n, .bl _, _ => ⟨rfl, Nat.zero_le _⟩
  | n, .int _, _ => ⟨rfl, Nat.zero_le _⟩
  | n, .str s, f => by
    refine ⟨?_, Nat.zero_le _⟩
    have f' : s.all (· < 1114112) = true := by cases n <;> exact f
    show PyData.strOk ⟨s.toArray⟩ = true
    unfold PyData.strOk
    rw [List.all_toArray]
    exact f'
  | 0, .tup _, f => by cases f
  | 0, .lst _, f => by cases f
  | n + 1, .tup ds, f => by
    obtain ⟨h1, h2⟩ := shp_ofL n ds f
    exact ⟨h1, Nat.succ_le_succ h2⟩
  | n + 1, .lst ds, f => by
    obtain ⟨h1, h2⟩ := shp_ofL n ds f
    exact ⟨h1, Nat.succ_le_succ h2⟩
  | n, .un, f => by cases n <;> cases f
  | n, .dct _, f => by cases n <;> cases f
  | n, .obj _ _, f => by cases n <;> cases f
  | n, .ref _, f => by cases n <;> cases f
  | n, .st _, f => by cases n <;> cases f
  | n, .fn _, f => by cases n <;> cases f
  | n, .scr _, f => by cases n <;> cases f
theorem shp_ofL : ∀ (n : Nat) (ds : List D), flatL n ds = true → PyData.canLayAll0 (pyL ds) = true ∧ PyData.depthAll (pyL ds) ≤ n
  | n, [], _ => ⟨rfl, Nat.zero_le _⟩
  | n, d :: ds, f => by
    have f' : (flatD n d && flatL n ds) = true := by
      have f0 := f
      unfold flatL at f0
      exact f0
    obtain ⟨f1, f2⟩ := Bool.and_eq_true_iff.mp f'
    obtain ⟨a1, a2⟩ := shp_of n d f1
    obtain ⟨b1, b2⟩ := shp_ofL n ds f2
    refine ⟨?_, ?_⟩
    · show (PyData.canLay0 (pyD d) && PyData.canLayAll0 (pyL ds)) = true
      rw [a1, b1]
      rfl
    · show max (PyData.depth (pyD d)) (PyData.depthAll (pyL ds)) ≤ n
      omega
end
theorem shaped_of {d : D} (f : flatD 40 d = true) : SeqAt.shaped (pyD d) = true := by
  obtain ⟨h1, h2⟩ := shp_of 40 d f
  unfold SeqAt.shaped
  rw [h1]
  have : (pyD d).depth ≤ 64 := by omega
  simpa using this
theorem str_beq (a b : List Nat) : ((⟨a.toArray⟩ : Str) == (⟨b.toArray⟩ : Str)) = (a == b) := by
  by_cases e : a = b
  · subst e; simp
  · have : ¬ (⟨a.toArray⟩ : Str) = ⟨b.toArray⟩ := fun q => e (by simpa using congrArg (fun z : Str => z.cps.toList) q)
    rw [beq_eq_false_iff_ne.mpr this, beq_eq_false_iff_ne.mpr e]
mutual
theorem eqv_of : ∀ (n : Nat) (d e : D), flatD n d = true → flatD n e = true → PyData.eqv (pyD d) (pyD e) = eqD d e
  | n, d, .un, _, f => by cases n <;> cases f
  | n, d, .dct _, _, f => by cases n <;> cases f
  | n, d, .obj _ _, _, f => by cases n <;> cases f
  | n, d, .ref _, _, f => by cases n <;> cases f
  | n, d, .st _, _, f => by cases n <;> cases f
  | n, d, .fn _, _, f => by cases n <;> cases f
  | n, d, .scr _, _, f => by cases n <;> cases f
  | n, .un, e, f, _ => by cases n <;> cases f
  | n, .dct _, e, f, _ => by cases n <;> cases f
  | n, .obj _ _, e, f, _ => by cases n <;> cases f
  | n, .ref _, e, f, _ => by cases n <;> cases f
  | n, .st _, e, f, _ => by cases n <;> cases f
  | n, .fn _, e, f, _ => by cases n <;> cases f
  | n, .scr _, e, f, _ => by cases n <;> cases f
  | n, .non, .non, _, _ => rfl
  | n, .non, .bl _, _, _ => rfl
  | n, .non, .int _, _, _ => rfl
  | n, .non, .str _, _, _ => rfl
  | n, .non, .tup _, _, _ => rfl
  | n, .non, .lst _, _, _ => rfl
  | n, .bl _, .non, _, _ => rfl
  | n, .bl _, .bl _, _, _ => rfl
  | n, .bl _, .int _, _, _ => rfl
  | n, .bl _, .str _, _, _ => rfl
  | n, .bl _, .tup _, _, _ => rfl
  | n, .bl _, .lst _, _, _ => rfl
  | n, .int _, .non, _, _ => rfl
  | n, .int _, .bl _, _, _ => rfl
  | n, .int _, .int _, _, _ => rfl
  | n, .int _, .str _, _, _ => rfl
  | n, .int _, .tup _, _, _ => rfl
  | n, .int _, .lst _, _, _ => rfl
  | n, .str _, .non, _, _ => rfl
  | n, .str _, .bl _, _, _ => rfl
  | n, .str _, .int _, _, _ => rfl
  | n, .str a, .str b, _, _ => str_beq a b
  | n, .str _, .tup _, _, _ => rfl
  | n, .str _, .lst _, _, _ => rfl
  | n, .tup _, .non, _, _ => rfl
  | n, .tup _, .bl _, _, _ => rfl
  | n, .tup _, .int _, _, _ => rfl
  | n, .tup _, .str _, _, _ => rfl
  | n, .tup _, .lst _, _, _ => rfl
  | n, .lst _, .non, _, _ => rfl
  | n, .lst _, .bl _, _, _ => rfl
  | n, .lst _, .int _, _, _ => rfl
  | n, .lst _, .str _, _, _ => rfl
  | n, .lst _, .tup _, _, _ => rfl
  | 0, .tup _, .tup _, f, _ => by cases f
  | 0, .lst _, .lst _, f, _ => by cases f
  | n + 1, .tup a, .tup b, f, g => eqv_ofL n a b f g
  | n + 1, .lst a, .lst b, f, g => eqv_ofL n a b f g
theorem eqv_ofL : ∀ (n : Nat) (d e : List D), flatL n d = true → flatL n e = true → PyData.eqvAll (pyL d) (pyL e) = eqL d e
  | _, [], [], _, _ => rfl
  | _, [], _ :: _, _, _ => rfl
  | _, _ :: _, [], _, _ => rfl
  | n, d :: ds, e :: es, f, g => by
    have f' : (flatD n d && flatL n ds) = true := by
      have f0 := f
      unfold flatL at f0
      exact f0
    have g' : (flatD n e && flatL n es) = true := by
      have f0 := g
      unfold flatL at f0
      exact f0
    obtain ⟨f1, f2⟩ := Bool.and_eq_true_iff.mp f'
    obtain ⟨g1, g2⟩ := Bool.and_eq_true_iff.mp g'
    show (PyData.eqv (pyD d) (pyD e) && PyData.eqvAll (pyL ds) (pyL es)) = (eqD d e && eqL ds es)
    rw [eqv_of n d e f1 g1, eqv_ofL n ds es f2 g2]
end
end
end Pk

/-! Comparisons, truth, subscripts: by values. -/
namespace Pk
open PySem L2
section
variable {G : Gs} {Z : Zs G} {X : Cx} {W : Kn} {m : Mu} {H : Hp}
theorem dp_rd (hK : X.K = G.K) (S : SRel Z W m H) {n : Nat} {d : D} {v : V} (r : Rep G W v d) (f : flatD (n + 1) (rd m d) = true) : Dp X.K H v (pyD (rd m d)) := by
  generalize e : rd m d = x at f
  cases x with
  | non => rw [rd_non r e]; exact .non
  | bl b => rw [rd_bl r e]; exact .bl _
  | int i => rw [rd_int r e]; exact .int _
  | str s => rw [rd_str r e]; exact .str _
  | tup ds =>
    obtain ⟨a, xs, rfl, h1, h2⟩ := rd_tup S r e
    exact .tup (by rw [hK]; exact h1) (dp_ofL hK S n ds xs h2 f)
  | lst ds =>
    obtain ⟨a, xs, rfl, h1, h2⟩ := rd_lst S r e
    exact .lst (.of h1) (dp_ofL hK S n ds xs h2 f)
  | _ => cases f
theorem dec_bl2 (a b : Bool) : decide (V.bl a = V.bl b) = (a == b) := dec_bl
theorem rd_sca {x : V} {d : D} (r : Rep G W x d) (f : scaD (rd m d) = true) : Rep G W x (rd m d) := by
  generalize e : rd m d = y at f
  cases y with
  | non => rw [rd_non r e]; exact .non
  | bl b => rw [rd_bl r e]; exact .bl _
  | int i => rw [rd_int r e]; exact .int _
  | str s => rw [rd_str r e]; exact .str _
  | _ => cases f
theorem scal_sca {a b : D} (h : scalD a b = true) : scaD a = true ∧ scaD b = true := by
  cases a <;> cases b <;> first | (cases h; done) | exact ⟨rfl, rfl⟩
theorem scal_rd {x y : V} {dx dy : D} (r1 : Rep G W x dx) (r2 : Rep G W y dy) (h : scalD (rd m dx) (rd m dy) = true) : scal x y = true ∧ decide (x = y) = eqD (rd m dx) (rd m dy) := by
  obtain ⟨f1, f2⟩ := scal_sca h
  have q1 := rd_sca r1 f1
  have q2 := rd_sca r2 f2
  generalize rd m dx = a at *
  generalize rd m dy = b at *
  cases a <;> cases b <;> first
    | (cases h; done)
    | (cases q1; cases q2; first
      | exact ⟨rfl, rfl⟩
      | exact ⟨rfl, dec_bl⟩
      | exact ⟨rfl, dec_int⟩
      | exact ⟨rfl, dec_str.trans (str_beq _ _)⟩
      | exact ⟨rfl, by simp [eqD]⟩)
theorem sca_rep {v : V} {d : D} (r : Rep G W v d) (h : scaD d = true) : flatV v = true := by
  cases d <;> first | (cases h; done) | (cases r; rfl)
theorem sca_all : ∀ {vs : List V} {ds : List D}, RepL G W vs ds → ds.all scaD = true → vs.all flatV = true
  | _, [], h, _ => by cases h; rfl
  | _, d :: ds, h, f => by
    cases h with
    | cons h1 h2 =>
      rw [List.all_cons] at f
      obtain ⟨f1, f2⟩ := Bool.and_eq_true_iff.mp f
      rw [List.all_cons, sca_rep h1 f1, sca_all h2 f2]
      rfl
theorem eqV_sca {x y : V} {a b : D} (r1 : Rep G W x a) (r2 : Rep G W y b) (f1 : scaD a = true) (f2 : scaD b = true) : eqV x y = eqD a b := by
  cases a <;> first
    | (cases f1; done)
    | (cases b <;> first
        | (cases f2; done)
        | (cases r1; cases r2; first | rfl | exact str_beq _ _))
theorem inV_eq {x : V} {d : D} (r : Rep G W x d) (f : scaD d = true) : ∀ {vs : List V} {ds : List D}, RepL G W vs ds → ds.all scaD = true → inV x vs = memD d ds
  | _, [], h, _ => by cases h; rfl
  | _, e :: ds, h, g => by
    cases h with
    | cons h1 h2 =>
      rw [List.all_cons] at g
      obtain ⟨g1, g2⟩ := Bool.and_eq_true_iff.mp g
      have ih := inV_eq r f h2 g2
      unfold inV memD at *
      rw [List.any_cons, List.any_cons, ih, eqV_sca h1 r g1 f]
theorem isN_eq {x : V} {d : D} (r : Rep G W x d) : decide (x = .non) = (match rd m d with
    | .non => true
    | _ => false) := by
  by_cases hx : x = .non
  · subst hx
    cases r
    rfl
  · rw [decide_eq_false hx]
    generalize e : rd m d = y
    cases y with
    | non => exact absurd (rd_non r e) hx
    | _ => rfl
theorem cmpOk (hK : X.K = G.K) (hu : X.A.units + 64 < cLine) (c : C2) : OpR X (compareOp (cpP c)) (rC Z c) := by
  intro pins s σ H x y v u Q I rx ry h
  obtain ⟨W, m, dx, dy, Qd, hr, S, r1, r2, k⟩ := h
  unfold cmpR at hr
  split at hr
  · obtain ⟨h1, h2⟩ := hr
    rcases h1 with h1 | ⟨h1, h3⟩
    · obtain ⟨q1, q2⟩ := scal_rd r1 r2 h1
      exact op_eq pins s σ H x y v u Q I rx ry ⟨q1, by rw [q2]; exact k _ h2⟩
    · exact op_eqD hu pins s σ H x y v u Q I rx ry ⟨_, _, dp_rd hK S r1 h1, dp_rd hK S r2 h3, shaped_of h1, shaped_of h3, by rw [eqv_of 40 _ _ h1 h3]; exact k _ h2⟩
  · obtain ⟨h1, h2⟩ := hr
    rcases h1 with h1 | ⟨h1, h3⟩
    · obtain ⟨q1, q2⟩ := scal_rd r1 r2 h1
      exact op_ne pins s σ H x y v u Q I rx ry ⟨q1, by rw [q2]; exact k _ h2⟩
    · exact op_neD hu pins s σ H x y v u Q I rx ry ⟨_, _, dp_rd hK S r1 h1, dp_rd hK S r2 h3, shaped_of h1, shaped_of h3, by rw [eqv_of 40 _ _ h1 h3]; exact k _ h2⟩
  · rename_i e1 e2
    exact op_lt pins s σ H x y v u Q I rx ry ⟨_, _, rd_int r1 e1, rd_int r2 e2, k _ hr⟩
  · rename_i e1 e2
    exact op_le pins s σ H x y v u Q I rx ry ⟨_, _, rd_int r1 e1, rd_int r2 e2, k _ hr⟩
  · rename_i e1 e2
    exact op_gt pins s σ H x y v u Q I rx ry ⟨_, _, rd_int r1 e1, rd_int r2 e2, k _ hr⟩
  · rename_i e1 e2
    exact op_ge pins s σ H x y v u Q I rx ry ⟨_, _, rd_int r1 e1, rd_int r2 e2, k _ hr⟩
  · rename_i e1 e2
    refine op_lt_str pins s σ H x y v u Q I rx ry ⟨_, _, rd_str r1 e1, rd_str r2 e2, ?_⟩
    rw [sltB_eq] at hr
    exact k _ hr
  · rename_i e1 e2
    refine op_le_str pins s σ H x y v u Q I rx ry ⟨_, _, rd_str r1 e1, rd_str r2 e2, ?_⟩
    rw [sltB_eq] at hr
    exact k _ hr
  · rename_i e1 e2
    refine op_gt_str pins s σ H x y v u Q I rx ry ⟨_, _, rd_str r1 e1, rd_str r2 e2, ?_⟩
    rw [sltB_eq] at hr
    exact k _ hr
  · rename_i e1 e2
    refine op_ge_str pins s σ H x y v u Q I rx ry ⟨_, _, rd_str r1 e1, rd_str r2 e2, ?_⟩
    rw [sltB_eq] at hr
    exact k _ hr
  · rename_i e2
    refine op_isN pins s σ H x y v u Q I rx ry ⟨rd_non r2 e2, ?_⟩
    rw [isN_eq (m := m) r1]
    exact k _ hr
  · rename_i e2
    refine op_notN pins s σ H x y v u Q I rx ry ⟨rd_non r2 e2, ?_⟩
    rw [isN_eq (m := m) r1]
    refine k _ ?_
    cases e : rd m dx <;> rw [e] at hr <;> exact hr
  · rename_i a b e1 e2
    refine op_isBl pins s σ H x y v u Q I rx ry ⟨_, _, rd_bl r1 e1, rd_bl r2 e2, ?_⟩
    refine k _ ?_
    have : (a == b) = decide (a = b) := by cases a <;> cases b <;> rfl
    rw [← this]
    exact hr
  · rename_i a b e1 e2
    refine op_notBl pins s σ H x y v u Q I rx ry ⟨_, _, rd_bl r1 e1, rd_bl r2 e2, ?_⟩
    refine k _ ?_
    have : (a != b) = !decide (a = b) := by cases a <;> cases b <;> rfl
    rw [← this]
    exact hr
  · rename_i a t e1 e2
    exact op_in_sign pins s σ H x y v u Q I rx ry ⟨_, _, rd_str r1 e1, rd_str r2 e2, k _ hr⟩
  · rename_i a t e1 e2
    exact op_notIn_sign pins s σ H x y v u Q I rx ry ⟨_, _, rd_str r1 e1, rd_str r2 e2, k _ hr⟩
  · rename_i ds e2
    obtain ⟨p, xs, rfl, h1, q1⟩ := rd_lst S r2 e2
    have r1' := rd_sca r1 hr.1.1
    refine op_in_seq pins s σ H x _ v u Q I rx ry ⟨p, xs, rfl, .inl (.of h1), sca_rep r1' hr.1.1, sca_all q1 hr.1.2, ?_⟩
    show Q (.bl (inV x xs)) H
    rw [inV_eq r1' hr.1.1 q1 hr.1.2]
    exact k _ hr.2
  · rename_i ds e2
    obtain ⟨p, xs, rfl, h1, q1⟩ := rd_tup S r2 e2
    have r1' := rd_sca r1 hr.1.1
    refine op_in_seq pins s σ H x _ v u Q I rx ry ⟨p, xs, rfl, .inr (by rw [hK]; exact h1), sca_rep r1' hr.1.1, sca_all q1 hr.1.2, ?_⟩
    show Q (.bl (inV x xs)) H
    rw [inV_eq r1' hr.1.1 q1 hr.1.2]
    exact k _ hr.2
  · rename_i ds e2
    obtain ⟨p, xs, rfl, h1, q1⟩ := rd_lst S r2 e2
    have r1' := rd_sca r1 hr.1.1
    refine op_notIn_seq pins s σ H x _ v u Q I rx ry ⟨p, xs, rfl, .inl (.of h1), sca_rep r1' hr.1.1, sca_all q1 hr.1.2, ?_⟩
    show Q (.bl (!inV x xs)) H
    rw [inV_eq r1' hr.1.1 q1 hr.1.2]
    exact k _ hr.2
  · rename_i ds e2
    obtain ⟨p, xs, rfl, h1, q1⟩ := rd_tup S r2 e2
    have r1' := rd_sca r1 hr.1.1
    refine op_notIn_seq pins s σ H x _ v u Q I rx ry ⟨p, xs, rfl, .inr (by rw [hK]; exact h1), sca_rep r1' hr.1.1, sca_all q1 hr.1.2, ?_⟩
    show Q (.bl (!inV x xs)) H
    rw [inV_eq r1' hr.1.1 q1 hr.1.2]
    exact k _ hr.2
  · exact hr.elim
/-! ### truth -/
theorem tru_rd (hK : X.K = G.K) (S : SRel Z W m H) {x : V} {d : D} {k : Bool} (r : Rep G W x d) (h : truD (rd m d) = some k) : TruV X.K x H k := by
  generalize e : rd m d = y at h
  cases y with
  | non => rw [rd_non r e]; cases h; rfl
  | bl b => rw [rd_bl r e]; cases h; rfl
  | int i => rw [rd_int r e]; cases h; rfl
  | str s =>
    rw [rd_str r e]
    have h' : (if s.length ≤ line then some (!s.isEmpty) else none) = some k := h
    by_cases q : s.length ≤ line
    · rw [if_pos q] at h'
      cases h'
      have hl : (⟨s.toArray⟩ : Str).length = s.length := by show s.toArray.size = _; simp
      refine ⟨?_, ?_⟩
      · rw [hl, ← line_eq]; exact q
      · rw [hl]
        cases s with
        | nil => rfl
        | cons c r =>
          simp
          omega
    · rw [if_neg q] at h'
      cases h'
  | tup ds =>
    obtain ⟨a, xs, rfl, h1, h2⟩ := rd_tup S r e
    cases h
    refine .inr (.inl ⟨xs, by rw [hK]; exact h1, ?_⟩)
    have := h2.length
    cases xs <;> cases ds <;> simp_all
  | lst ds =>
    obtain ⟨a, xs, rfl, h1, h2⟩ := rd_lst S r e
    cases h
    refine .inl ⟨xs, .of h1, ?_⟩
    have := h2.length
    cases xs <;> cases ds <;> simp_all
  | _ => cases h
/-! ### subscripts -/
def rI2 {G : Gs} (Z : Zs G) : R2 := fun x y H QV => ∃ (W : Kn) (m : Mu) (dx dy : D) (Q : D → Prop), ixR (rd m dx) dy Q ∧ SRel Z W m H ∧ Rep G W x dx ∧ Rep G W y dy ∧ ∀ d v, Rep G W v d → Q d → QV v H
theorem atI_rep {vs : List V} {ds : List D} {i : Int} {d : D} (h : RepL G W vs ds) (e : L2.atI ds i = some d) : ∃ v, L2.atI vs i = some v ∧ Rep G W v d := by
  unfold L2.atI at *
  rw [h.length]
  cases q : L2.ixN ds.length i with
  | none => rw [q] at e; cases e
  | some j =>
    rw [q] at e
    exact h.get e
theorem ixOk (hK : X.K = G.K) : IxR X (rI2 Z) := by
  intro value slice pins s σ H x y v u Q I rx ry h hs
  obtain ⟨W, m, dx, dy, Qd, hr, S, r1, r2, k⟩ := h
  unfold ixR at hr
  split at hr
  · rename_i ds i e1
    obtain ⟨d, h1, h2⟩ := hr
    obtain ⟨p, xs, rfl, h3, q1⟩ := rd_lst S r1 e1
    obtain ⟨z, h4, h5⟩ := atI_rep q1 h1
    cases r2
    exact ix_list value slice pins s σ H _ _ v u Q I rx ry ⟨p, xs, i, z, rfl, rfl, .of h3, h4, k _ _ h5 h2⟩ hs
  · rename_i ds i e1
    obtain ⟨d, h1, h2⟩ := hr
    obtain ⟨p, xs, rfl, h3, q1⟩ := rd_tup S r1 e1
    obtain ⟨z, h4, h5⟩ := atI_rep q1 h1
    cases r2
    exact ix_tup value slice pins s σ H _ _ v u Q I rx ry ⟨p, xs, i, z, rfl, rfl, by rw [hK]; exact h3, h4, k _ _ h5 h2⟩ hs
  · rename_i t i e1
    obtain ⟨c, h1, h2, h3⟩ := hr
    cases r2
    have e2 := rd_str r1 e1
    subst e2
    refine ix_str value slice pins s σ H _ _ v u Q I rx ry ⟨_, i, c, rfl, rfl, ?_, ?_, k _ _ (.str [c]) h3⟩ hs
    · show t.toArray.size ≤ sizeLine
      rw [← line_eq]; simpa using h2
    · exact h1
  · exact hr.elim
end
end Pk

/-! Calls where something may be being handled: what a def promises there; calls that let exceptions out, at the slots. -/
namespace Pk
open PySem PySem.Spec PyProof.Rows L2
/-- what a def promises wherever it is called; pn: objects that stand -/
structure FnN (P : Program) (w : World) (K : PySem.W.Frag) (mg : Str → Option Value) (base : Heap) (CX : CXT) (k : Nat) (f : Addr) (fd : FuncData) (ps : List Str) (sp : List (Addr × Obj) → Sp) : Prop where
  len : ∀ pn vs H Q E, sp pn vs H Q E → vs.length = ps.length
  run : ∀ (A : Around) (outer : List PySem.Env) (s : Shared) (H : Hp) (args : Args) (us : List Value) (vs : List V) (Q : VK) (E : XK) (pn : List (Addr × Obj)), L2H.RoomH k A → (∀ p ∈ pn, L2H.PinOk outer H s p) → Env0 P w K mg base A outer s H → BindsTo s fd args (ps.zip us) → Vals vs us → sp pn vs H Q E →
    codeAny (model P w) A (.call (.ref f) args) (CR CX outer P w H s Q E) s
def cxN (CX : CXT) (P : Program) (w : World) (K : PySem.W.Frag) (mg : Str → Option Value) (base : Heap) (N : List Str) (qual : Str) (scope : Scope) (f : Addr) (cd : Value) (A : Around) (outer : List PySem.Env) (s : Shared) (H : Hp) (E : XK) (pn : List (Addr × Obj)) : Cx :=
  { cxOf CX P w K mg base N qual scope f cd A outer s H E with calm := false, pn := pn }
/-- the same state, seen from where something may be being handled -/
theorem inv_toN {CX : CXT} {P : Program} {w : World} {K : PySem.W.Frag} {mg : Str → Option Value} {base : Heap} {N : List Str} {qual : Str} {scope : Scope} {f : Addr} {cd : Value} {A : Around} {outer : List PySem.Env} {s s1 : Shared} {H : Hp} {E : XK} {st : L2.St} {H1 : Hp}
    (I : Inv (cxOf CX P w K mg base N qual scope f cd { A with handled := none } outer s H E) [] st H1 s1) {pn : List (Addr × Obj)}
    (hp : ∀ p ∈ pn, s1.heap.get? p.1 = some p.2 ∧ H1 p.1 = none ∧ p.1 ≠ (envOfC qual scope s.heap.objs.size f cd).locals ∧ p.1 ∉ frs outer ∧ ∀ v, p.2.data ≠ .cell v) : Inv (cxN CX P w K mg base N qual scope f cd A outer s H E pn) [] st H1 s1 := by
  obtain ⟨⟨a1, a2, a3, a4, a5, a6, a7, a8, _, a10, a11, a12, a13, a14, a15, a16, a17, a18⟩, b1, b2, b3, b4, b5, b6, b7, _, b9, b10⟩ := I
  refine ⟨⟨a1, a2, a3, a4, a5, a6, a7, a8, fun z => ?_, a10, a11, a12, a13, a14, a15, a16, a17, a18⟩, b1, b2, b3, b4, b5, b6, b7, fun p z => ?_, b9, b10⟩
  · cases z
  · rw [List.append_nil] at z
    exact hp p z
section
variable {CX : CXT} {P : Program} {w : World} {K : PySem.W.Frag} {mg : Str → Option Value} {base : Heap} {k : Nat} {f : Addr} {name qual : Str} {params : Arguments} {body : List Stmt} {scope : Scope} {dV kV doc pm cdv ct oc : Value} {an od : Option Addr} {osl : Array (Option Value)} {N ps : List Str} {sp : List (Addr × Obj) → Sp}
theorem fn_ofN (lk : K.lookup f = some ⟨oc, od, .func (PySem.W.fnOf name qual params body scope dV kV doc pm an cdv ct), osl⟩) (hcd : PySem.W.codeIn K cdv qual = true) (S : FnScope N ps scope) (len : ∀ pn vs H Q E, sp pn vs H Q E → vs.length = ps.length)
    (hbody : ∀ (A : Around) (outer : List PySem.Env) (s : Shared) (H : Hp) (vs : List V) (Q : VK) (E : XK) (pn : List (Addr × Obj)), L2H.RoomH k (A.deeper (envOfC qual scope s.heap.objs.size f cdv)) → sp pn vs H Q E →
      ∃ t, PSs (cxN CX P w K mg base N qual scope f cdv A outer s H E pn) body t ∧ t { nx := fun _ H' => Q .non H', rt := Q } (L2.start N vs) H) :
    FnN P w K mg base CX (k + 1) f (PySem.W.fnOf name qual params body scope dV kV doc pm an cdv ct) ps sp where
  len := len
  run A outer s H args us vs Q E pn hr hpin e0 hb r hsp := by
    obtain ⟨t, ht, hq⟩ := hbody A outer s H vs Q E pn (hr.deeper _) hsp
    have inK : K.In s.heap := e0.mod.kin.keeps fun b o z => (e0.bs b o z).1
    have free : s.heap.NoLimit := e0.mod.nolimit.keeps fun b o z => (e0.bs b o z).1
    have e1 : Env0 P w K mg base { A with handled := none } outer s H := ⟨e0.frames, e0.mod, e0.bs, e0.bsz, e0.funs, e0.frf, e0.hok, e0.bare⟩
    have kinds : ∀ y ∈ ps.zip us, scope.names.lookup y.1 = some .local ∨ (scope.names.lookup y.1 = some .cell ∧ ((cellsFrom (s.heap.objs.size + 1) scope.names []).lookup y.1).isSome = true) := by
      rintro ⟨n, v⟩ hy
      exact (S.par n (List.of_mem_zip hy).1).imp id fun q => ⟨q, PySem.W.cellsFrom_some _ _ _ (.inl q)⟩
    refine codeAny_call_function hr.depth (inK _ _ lk) rfl S.co S.gen rfl (PySem.W.codeRec_of inK hcd) (hb _ _ _ _ (wpAny_newFunctionEnv_cells S.kind kinds ?_))
    intro env he s1 x
    subst he
    obtain ⟨h1, tk, es, hk⟩ := id x.done
    have I := inv_toN (pn := pn) (inv_start (CX := CX) (P := P) (w := w) (E := E) (A := { A with handled := none }) S (show ({ A with handled := none } : Around).handled = none from rfl) e1 (len _ _ _ _ _ hsp) r x) fun p hp => by
      subst es
      exact ⟨hk _ _ (hpin p hp).get, (hpin p hp).free, Nat.ne_of_lt (Heap.lt_size (hpin p hp).get), (hpin p hp).nofs, (hpin p hp).nocell⟩
    refine ⟨free.keeps x.toInCall.keep, codeAny_func (wpAny_mono (ht.run [] s1 _ H _ I hq) ?_ fun _ _ z => z)⟩
    rintro (_ | _ | _ | _) s' hs
    all_goals first
      | (obtain ⟨σ', H', J, q⟩ := hs
         first
         | exact q.elim
         | exact ⟨V.non, H', J.os, J.bare, J.base, J.hok, rfl, q⟩)
      | (obtain ⟨v, σ', H', J, rv, q⟩ := hs
         exact ⟨v, H', J.os, J.bare, J.base, J.hok, rv, q⟩)
end
/-! ### calls -/
section
variable {X : Cx} {CX : CXT} {k : Nat} {f C : Addr} {fd : FuncData} {ps : List Str} {sp : Sp} {spn : List (Addr × Obj) → Sp} {E : L2.St → XK} {x m : Str} {q pos apos : Pos} {e o : Expr} {es : List Expr} {ta : TE} {t : TA} {dvs : List V} {ds : List Value}
/-- f(..), where nothing is being handled -/
theorem pe_callS0 (F : FnOk X.prog X.w X.K X.mg X.base CX k f fd ps sp) (hr : Room k X.A) (hg : Gl X x) (hm : X.mg x = some (.ref f)) (hk : PySem.W.keepIn X.K (.ref f) = true) (hb : Binds X.K fd ps ds) (hd : Vals dvs ds) (hx : ∀ σ, PassesAt CX X σ (E σ))
    (hdb : (x == ("__debug__" : Str)) = false := by decide) : PE X (.Call (.Name x q) [] [] pos) (tCallSD sp dvs E tNil) := by
  refine ⟨fun pins s σ H Q I h => ?_⟩
  refine wpAny_Call_Name_kw (ld_glob I hg hm ?_ hdb)
  exact PySem.W.callWith_K0 I.kIn hk (run_fnSD (us := []) F hr hb hd (hx σ) I .nil h)
/-- .. wherever -/
def tCallN (sp : List (Addr × Obj) → Sp) (pn : List (Addr × Obj)) (dvs : List V) (E : L2.St → XK) (t : TA) : TE := fun σ H Q => t σ H fun vs H1 => sp pn (vs ++ dvs) H1 Q (E σ)
theorem run_fnN {pins : List (Addr × Obj)} {σ : L2.St} {H : Hp} {s : Shared} {Q : VK} {us : List Value} {vs : List V} (F : FnN X.prog X.w X.K X.mg X.base CX k f fd ps spn) (hr : L2H.RoomH k X.A) (hb : Binds X.K fd ps ds) (hd : Vals dvs ds) (hx : PassesAt CX X σ (E σ))
    (I : Inv X pins σ H s) (r : Vals vs us) (h : spn X.pn (vs ++ dvs) H Q (E σ)) : wpAny (model X.prog X.w) X.A (call (.ref f) us) (EP X pins σ Q) X.xe s := by
  have r2 : Vals (vs ++ dvs) (us ++ ds) := r.append hd
  have hl : (us ++ ds).length = ps.length := by rw [← r2.length]; exact F.len _ _ _ _ _ h
  have hpin : ∀ p ∈ X.pn, L2H.PinOk X.stack H s p := fun p hp => by
    have P1 := I.pin p (List.mem_append_left _ hp)
    exact ⟨P1.1, P1.2.1, fun hm => (List.mem_cons.mp (I.stkSub p.1 hm)).elim P1.2.2.1 P1.2.2.2.1, P1.2.2.2.2⟩
  refine wpAny_call (codeAny_mono (F.run X.A X.stack s H ⟨us, []⟩ (us ++ ds) (vs ++ dvs) Q (E σ) X.pn hr hpin I.env0 (hb s us I.kIn hl) r2 h) fun r s' hq => ?_)
  cases r with
  | error e => exact hx pins H s e s' I hq
  | ok fl =>
    cases fl with
    | ret u => exact I.after hq
    | next => exact False.elim hq
    | brk => exact False.elim hq
    | cont => exact False.elim hq
theorem pe_callN (F : FnN X.prog X.w X.K X.mg X.base CX k f fd ps spn) (hr : L2H.RoomH k X.A) (hg : Gl X x) (hm : X.mg x = some (.ref f)) (hk : PySem.W.keepIn X.K (.ref f) = true) (hb : Binds X.K fd ps ds) (hd : Vals dvs ds) (hx : ∀ σ, PassesAt CX X σ (E σ))
    (ha : PA X (e :: es) t) (hdb : (x == ("__debug__" : Str)) = false := by decide) (he : starEach (e :: es) X.env = (false, eval e X.env) :: starEach es X.env := by rfl) (hpl : (backTo pos (starEach es X.env)).any (·.1) = false := by rfl) :
    PE X (.Call (.Name x q) (e :: es) [] pos) (tCallN spn X.pn dvs E t) := by
  refine ⟨fun pins s σ H Q I h => ?_⟩
  refine wpAny_Call_Name_kw (ld_glob I hg hm ?_ hdb)
  refine PySem.W.callWith_K (h₀ := X.base) I.ok.mod.kin hk (thn (ha.run pos pins s σ H _ I h) fun us s1 ⟨vs, H1, I1, r, q⟩ => ⟨I1.kIn, ?_⟩) he hpl
  exact run_fnN F hr hb hd (hx σ) I1 r q
theorem pe_callN0 (F : FnN X.prog X.w X.K X.mg X.base CX k f fd ps spn) (hr : L2H.RoomH k X.A) (hg : Gl X x) (hm : X.mg x = some (.ref f)) (hk : PySem.W.keepIn X.K (.ref f) = true) (hb : Binds X.K fd ps ds) (hd : Vals dvs ds) (hx : ∀ σ, PassesAt CX X σ (E σ))
    (hdb : (x == ("__debug__" : Str)) = false := by decide) : PE X (.Call (.Name x q) [] [] pos) (tCallN spn X.pn dvs E tNil) := by
  refine ⟨fun pins s σ H Q I h => ?_⟩
  refine wpAny_Call_Name_kw (ld_glob I hg hm ?_ hdb)
  exact PySem.W.callWith_K0 I.kIn hk (run_fnN (us := []) F hr hb hd (hx σ) I .nil h)
end
end Pk

/-! a, b, *rest = xs -/
namespace Pk
open PySem PySem.Spec PyProof.Rows L2
section
variable {P : Program} {w : World} {A : Around} {E : Value → Shared → Prop} {s : Shared}
/-- what is left of an iterator, as a new list -/
theorem star_rest {I ax : Addr} {items : Array Value} {i : Nat} {T : String} {St : Nat → Heap → Prop} {Q : List Value → Shared → Prop} (hTm : T = "str_ascii_iterator" ∨ T = "str_iterator" ∨ T = "list_iterator" ∨ T = "tuple_iterator")
    (W : Walks P w A.in1 I [I, ax] [I] items.size (fun i v => items[i]? = some v) St) (hT : ∀ i (u : Shared), St i u.heap → u.TypeIs (.ref I) T) (hi : i ≤ items.size) (hst : St i s.heap) (hI : I < s.heap.objs.size) (hax : ax < s.heap.objs.size) (hz : items.size ≤ sizeLine)
    (h : ∀ (h₂ : Heap) (tk : Nat), (∀ b o, b ≠ I → s.heap.get? b = some o → h₂.get? b = some o) → Q (items.toList.take i ++ [.ref h₂.objs.size]) { s with heap := h₂.push (seqObj "list" (items.toList.drop i).toArray 0), toks := tk }) :
    wpAny (model P w) A (do
      let rest ← holding (items.toList.take i) (collect (.ref I))
      let after := i + 1 - 1 - i
      if rest.length < after then
        rule "unpack.star.too-few"
        raiseError "ValueError" s!"not enough values to unpack (expected at least {i + 1 - 1}, got {i + rest.length})"
      let mid := rest.length - after
      return items.toList.take i ++ [← newList (rest.take mid)] ++ rest.drop mid) Q E s := by
  have hl : (items.toList.drop i).length = items.size - i := by rw [List.length_drop, Array.length_toList]
  refine wpAny_bind (wpAny_holding (PySem.W.kun_collect (T := T) hTm W hT hi hst hI hax (fun h₂ tk hk => ?_) hz))
  have e0 : i + 1 - 1 - i = 0 := by omega
  dsimp only
  rw [e0, if_neg (Nat.not_lt_zero _), Nat.sub_zero, List.take_of_length_le (Nat.le_refl _), List.drop_of_length_le (Nat.le_refl _)]
  refine wpAny_bind (wpAny_newList (wpAny_pure ?_) (by rw [hl]; omega))
  rw [List.append_nil]
  exact h _ tk hk
theorem star_list {l : Addr} {items : Array Value} {i : Nat} {Q : List Value → Shared → Prop} (hl : s.heap.IsList l items) (hh : A.handled = none) (hi : i ≤ items.size) (hz : items.size ≤ sizeLine)
    (h : ∀ (h₂ : Heap) (tk : Nat), (∀ b o, s.heap.get? b = some o → h₂.get? b = some o) → Q (items.toList.take i ++ [.ref h₂.objs.size]) { s with heap := h₂.push (seqObj "list" (items.toList.drop i).toArray 0), toks := tk }) :
    wpAny (model P w) A (unpackItems (.ref l) (i + 1) (some i)) Q E s := by
  have hll : l < s.heap.objs.size := by obtain ⟨o, ho, _⟩ := hl; exact Heap.lt_size ho
  have hlt : l ≠ s.heap.objs.size := Nat.ne_of_lt hll
  unfold unpackItems
  refine wpAny_bind ?_
  unfold notIterableAtAll
  refine wpAny_bind (wpAny_specialOf hl.typeIs slot_list_iter.lookup (wpAny_pure ?_))
  simp only [Bool.false_eq_true, if_false]
  refine wpAny_bind (wpAny_holding (wpAny_pyIter_list hl ?_))
  refine wpAny_bind (wpAny_holding (PySem.W.kun_draw hlt i 0 _ _ ⟨_, Heap.get?_push_size _ rfl, rfl, rfl⟩ (hl.push _) (by omega) fun h₁ hit hs => ?_))
  rw [Nat.zero_add] at hit
  have hl1 : h₁.IsList l items := (hl.push _).extBut hs.extBut hlt
  obtain ⟨oi, hoi, _⟩ := id hit
  obtain ⟨ol, hol, _⟩ := id hl1
  rw [List.drop_zero, if_neg (show ¬ ((items.toList.take i).length < i) by rw [List.length_take, Array.length_toList]; omega)]
  exact star_rest (s := { s with heap := h₁ }) (T := "list_iterator") (.inr (.inr (.inl rfl))) (Walks.list (A := A.in1) hh s.heap.objs.size l hlt items) (fun j u st => st.1.typeIs) hi ⟨hit, hl1⟩ (Heap.lt_size hoi) (Heap.lt_size hol) hz
    fun h₂ tk hk => h h₂ tk fun b o e => hk b o (Nat.ne_of_lt (Heap.lt_size e)) (hs.extBut b o (Nat.ne_of_lt (Heap.lt_size e)) (Heap.get?_push_of_some _ e))
theorem star_tuple {l : Addr} {items : Array Value} {i : Nat} {Q : List Value → Shared → Prop} (hl : s.heap.IsTuple l items) (hh : A.handled = none) (hi : i ≤ items.size) (hz : items.size ≤ sizeLine)
    (h : ∀ (h₂ : Heap) (tk : Nat), (∀ b o, s.heap.get? b = some o → h₂.get? b = some o) → Q (items.toList.take i ++ [.ref h₂.objs.size]) { s with heap := h₂.push (seqObj "list" (items.toList.drop i).toArray 0), toks := tk }) :
    wpAny (model P w) A (unpackItems (.ref l) (i + 1) (some i)) Q E s := by
  have hll : l < s.heap.objs.size := by obtain ⟨o, ho, _⟩ := hl; exact Heap.lt_size ho
  have hlt : l ≠ s.heap.objs.size := Nat.ne_of_lt hll
  unfold unpackItems
  refine wpAny_bind ?_
  unfold notIterableAtAll
  refine wpAny_bind (wpAny_specialOf hl.typeIs F.slot_tuple_iter.lookup (wpAny_pure ?_))
  simp only [Bool.false_eq_true, if_false]
  refine wpAny_bind (wpAny_holding (wpAny_pyIter_tuple hl ?_))
  refine wpAny_bind (wpAny_holding (wpAny_draw_tuple hlt i 0 _ _ ⟨_, Heap.get?_push_size _ rfl, rfl, rfl⟩ (hl.push _) (by omega) fun h₁ hit hs => ?_))
  rw [Nat.zero_add] at hit
  have hl1 : h₁.IsTuple l items := (hl.push _).extBut hs.extBut hlt
  obtain ⟨oi, hoi, _⟩ := id hit
  obtain ⟨ol, hol, _⟩ := id hl1
  rw [List.drop_zero, if_neg (show ¬ ((items.toList.take i).length < i) by rw [List.length_take, Array.length_toList]; omega)]
  exact star_rest (s := { s with heap := h₁ }) (T := "tuple_iterator") (.inr (.inr (.inr rfl))) (Walks.tuple (A := A.in1) hh s.heap.objs.size l hlt items) (fun j u st => st.1.typeIs) hi ⟨hit, hl1⟩ (Heap.lt_size hoi) (Heap.lt_size hol) hz
    fun h₂ tk hk => h h₂ tk fun b o e => hk b o (Nat.ne_of_lt (Heap.lt_size e)) (hs.extBut b o (Nat.ne_of_lt (Heap.lt_size e)) (Heap.get?_push_of_some _ e))
end
section
variable {X : Cx}
/-- a, .., *r = a list or a tuple; n names ahead -/
def gStar (K : PySem.W.Frag) (n : Nat) (t : TGs) : TG := fun v σ H Q => ∃ a xs, v = .ref a ∧ (SqL K H a xs ∨ SqT K H a xs) ∧ n ≤ xs.length ∧ ∀ p, H p = none → xs.length ≤ sizeLine → t (xs.take n ++ [.ref p]) σ (upd H p (.lst (xs.drop n))) Q
theorem vals_take : ∀ (n : Nat) {xs : List V} {us : List Value}, Vals xs us → Vals (xs.take n) (us.take n)
  | 0, _, _, _ => by simp; exact .nil
  | _ + 1, _, _, .nil => by simp; exact .nil
  | n + 1, _, _, .cons r t => .cons r (vals_take n t)
theorem vals_drop : ∀ (n : Nat) {xs : List V} {us : List Value}, Vals xs us → Vals (xs.drop n) (us.drop n)
  | 0, _, _, h => h
  | _ + 1, _, _, .nil => by simp; exact .nil
  | n + 1, _, _, .cons r t => vals_drop n t
theorem pg_star {es : List Expr} {k : Nat} {pos : Pos} {t : TGs} {n : Nat} (hc : X.calm = true) (h : PGs X es t) (hn : (assignEach es X.env).length = n + 1) (hst : (assignEach es X.env).findIdx? (·.1) = some n) : PG X (.Tuple es k pos) (gStar X.K n t) := by
  refine ⟨fun pins s σ H v u Q I r hw => ?_⟩
  obtain ⟨a, xs, rfl, hq, hl, hw⟩ := hw
  cases r
  rw [PyProof.Rows.assign_Tuple]
  refine wpAny_bind (wpAny_standAt ?_)
  unfold unpack
  rw [hn, hst]
  have fin : ∀ (its : List Value), Vals xs its → xs.length ≤ sizeLine → ∀ (h₂ : Heap) (tk : Nat), (∀ b o, s.heap.get? b = some o → h₂.get? b = some o) →
      wpAny (model X.prog X.w) X.A (assignInOrder ((assignEach es X.env).map (·.2)) (its.toArray.toList.take n ++ [.ref h₂.objs.size])) (fun _ s' => ∃ σ' H', Inv X pins σ' H' s' ∧ Q σ' H') X.xe { s with heap := h₂.push (seqObj "list" (its.toArray.toList.drop n).toArray 0), toks := tk } := by
    intro its rv hz h₂ tk hk
    have I1 : Inv X pins σ H { s with heap := h₂, toks := tk } := I.kept hk
    have hp : H h₂.objs.size = none := I1.hok.fresh (Nat.le_refl _)
    have rd := vals_drop n rv
    have ok : ObjOk X.prog X.w (upd H h₂.objs.size (.lst (xs.drop n))) (h₂.push (seqObj "list" (its.toArray.toList.drop n).toArray 0)) h₂.objs.size (.lst (xs.drop n)) :=
      ⟨by rw [List.length_drop]; omega, its.drop n, 0, rd, by rw [Heap.get?_push_size _ rfl]⟩
    have I2 : Inv X pins σ (upd H h₂.objs.size (.lst (xs.drop n))) { s with heap := h₂.push (seqObj "list" (its.toArray.toList.drop n).toArray 0), toks := tk } := Inv.laid (s := { s with heap := h₂, toks := tk }) I1 (fun b o e => Heap.get?_push_of_some _ e) (Nat.le_refl _) ok
    have rt : Vals (xs.take n ++ [V.ref h₂.objs.size]) (its.toArray.toList.take n ++ [.ref h₂.objs.size]) := (vals_take n rv).append (.cons rfl .nil)
    exact h.run pins _ σ _ _ _ Q I2 rt (hw _ hp hz)
  rcases hq with hq | hq
  · obtain ⟨its, rv, pl, hz⟩ := I.list hq
    refine wpAny_bind (wpAny_holding (star_list pl.isList (I.ok.hd hc) (by rw [List.size_toArray, ← rv.length]; exact hl) (by rw [List.size_toArray, ← rv.length]; exact hz) fun h₂ tk hk => fin its rv hz h₂ tk hk))
  · obtain ⟨its, rv, ht, hz⟩ := I.tuple hq
    refine wpAny_bind (wpAny_holding (star_tuple ht (I.ok.hd hc) (by rw [List.size_toArray, ← rv.length]; exact hl) (by rw [List.size_toArray, ← rv.length]; exact hz) fun h₂ tk hk => fin its rv hz h₂ tk hk))
/-- the last target -/
theorem pgs_starN {x : Str} {q : Pos} {t : TG} {p : Pos} (h : PG X (.Name x q) t) : PGs X [.Starred (.Name x q) p] (gCons t gNil) :=
  ⟨fun pins s σ H vs us Q I r hw => (pgs_cons h (pgs_nil (X := X))).run pins s σ H vs us Q I r hw⟩
end
end Pk

/-! The program's own exceptions: what their classes say, how they are made and caught. -/
namespace Pk
open PySem PySem.Spec PyProof.Rows L2
/-! ### what a class must say -/
def eqV (a b : Option (Option Value)) : Bool := decide (a = b)
/-- .. as a class over ValueError with a dict -/
def oexB (K : PySem.W.Frag) (C : Addr) : Bool := match K.lookup C with
  | some ⟨.type t, _, .cls cd, sl⟩ => (match cd.mro, sl.toList with
    | .ref D :: bm, [_, _, _, _, some (.builtin n), _] => decide (t = "type") && decide (D = C) && decide (n = "ValueError.__new__") && !cd.hasDel && cd.hasDict && PySem.HandSPX.refsVE bm
    | _, _ => false)
  | _ => false
def clB (K : PySem.W.Frag) (C : Addr) : Bool := oexB K C && eqV (PySem.W.findIn K (.ref C) "__setattr__") (some (some (.builtin "object.__setattr__"))) && decide (PySem.W.subIn K (.ref C) (.type "BaseException") = some true) && decide (PySem.W.typeIn K (.ref C) = some (.type "type"))
  && PySem.W.keepIn K (.ref C) && xfB K C && eqV (PySem.W.findIn K (.ref C) "__class__") (some (some (.builtin "object.__class__"))) && decide (PySem.W.specialIn K (.builtin "object.__class__") "__get__" = some (some (.builtin "getset_descriptor.__get__")))
  && decide (PySem.W.takesIn K (.builtin "object.__class__") = some true) && decide (PySem.W.mroIn K C (.type "object") = some true)
theorem oexB_ok {K : PySem.W.Frag} {C : Addr} (h : oexB K C = true) : ∃ nm q N bs bm sn sub ab col dd k0 k1 k2 k3 k5, K.lookup C = some (excClassObj nm q C N bs bm true sn sub ab col dd k0 k1 k2 k3 k5 "ValueError.__new__") ∧ PySem.HandSPX.refsVE bm = true := by
  unfold oexB at h
  split at h
  · rename_i t dd cd sl ho
    split at h
    · rename_i D bm k0 k1 k2 k3 n k5 hm hs
      simp only [Bool.and_eq_true, decide_eq_true_eq, Bool.not_eq_true'] at h
      obtain ⟨⟨⟨⟨⟨rfl, rfl⟩, rfl⟩, hdel⟩, hdct⟩, hv⟩ := h
      obtain ⟨nm, bs, mro, ns, qn, hd, sn, sub, ab, col, del⟩ := cd
      dsimp only at hm hdel hdct
      subst hm hdel hdct
      have hsl : sl = #[k0, k1, k2, k3, some (.builtin "ValueError.__new__"), k5] := by
        obtain ⟨l⟩ := sl
        simp only at hs
        rw [hs]
      subst hsl
      exact ⟨nm, qn, ns, bs, bm, sn, sub, ab, col, dd, k0, k1, k2, k3, k5, ho, hv⟩
    · cases h
  · cases h
structure ClOk (K : PySem.W.Frag) (C : Addr) : Prop where
  o : OexC K C
  x : XfC K C
  cl : PySem.W.findIn K (.ref C) "__class__" = some (some (.builtin "object.__class__"))
  sg : PySem.W.specialIn K (.builtin "object.__class__") "__get__" = some (some (.builtin "getset_descriptor.__get__"))
  tk : PySem.W.takesIn K (.builtin "object.__class__") = some true
  mo : PySem.W.mroIn K C (.type "object") = some true
theorem clB_ok {K : PySem.W.Frag} {C : Addr} (h : clB K C = true) : ClOk K C := by
  unfold clB eqV at h
  simp only [Bool.and_eq_true, decide_eq_true_eq] at h
  obtain ⟨⟨⟨⟨⟨⟨⟨⟨⟨h1, h2⟩, h3⟩, h4⟩, h5⟩, h6⟩, h7⟩, h8⟩, h9⟩, h10⟩ := h
  exact ⟨⟨oexB_ok h1, h2, h3, h4, h5⟩, xfB_ok h6, h7, h8, h9, h10⟩
/-! ### isinstance, fields -/
section
variable {X : Cx} {a C : Addr} {oe : Obj} {d : Option Addr}
theorem inst_of {pins : List (Addr × Obj)} {σ : L2.St} {H : Hp} {s : Shared} (I : Inv X pins σ H s) (hp : (a, oe) ∈ X.pn) (hz : Zc (.ref C) d oe) (hf : ∃ vs, oe.data = .fields vs) (hd : d = none ∨ ∃ dd fs, d = some dd ∧ H dd = some (.xd fs)) :
    ∃ od, PySem.W.InstAt s.heap a oe C od := by
  obtain ⟨ha, _⟩ := I.pin (a, oe) (List.mem_append_left _ hp)
  obtain ⟨vs, hv⟩ := hf
  have nc : PySem.W.notCls oe = true := by
    unfold PySem.W.notCls
    rw [hv] <;> rfl
  rcases hd with rfl | ⟨dd, fs, rfl, e⟩
  · refine ⟨none, ha, hz.1, nc, ?_⟩
    rw [hz.2]
    trivial
  · have hx : ObjOk X.prog X.w H s.heap dd (.xd fs) := I.hok dd _ e
    obtain ⟨mA, hns, hr⟩ := hx
    obtain ⟨od, ho, hl⟩ := lookIn_ns hns
    refine ⟨some od, ha, hz.1, nc, ?_⟩
    rw [hz.2]
    exact ho
/-- isinstance(e, c) -/
def tXis (K : PySem.W.Frag) (a C : Addr) (d : Option Addr) (cv : Value) (te : TE) : TE := fun σ H Q => te σ H fun x H1 => x = .ref a ∧ (d = none ∨ ∃ dd fs, d = some dd ∧ H1 dd = some (.xd fs)) ∧ ∃ b, PySem.W.kitOne K (.ref C) cv = some b ∧ Q (.bl b) H1
theorem pe_xis {e : Expr} {te : TE} {y : Str} {p p2 pos : Pos} {cv : Value} (hp : (a, oe) ∈ X.pn) (T : ClOk X.K C) (hz : Zc (.ref C) d oe) (hf : ∃ vs, oe.data = .fields vs) (hg : Gl X "isinstance") (hm : X.mg "isinstance" = none) (he : PE X e te)
    (hc : Names X y cv) (ne : starEach [e, .Name y p2] X.env = (false, eval e X.env) :: starEach [.Name y p2] X.env) : PE X (.Call (.Name "isinstance" p) [e, .Name y p2] [] pos) (tXis X.K a C d cv te) := by
  refine ⟨fun pins s σ H Q I h => ?_⟩
  refine Call_ (ld_blt I hg hm PyProof.Rows.boot_isinstance ?_)
  refine PyProof.Rows.callWith_builtin1 (PyProof.Rows.args_cons (thn (he.run pins s σ H _ I h) fun v s1 ⟨x, H1, I1, r1, q1⟩ => ?_) ne) ne rfl
  obtain ⟨rfl, hd, b, e1, q⟩ := q1
  cases r1
  refine PyProof.Rows.args_cons (he := rfl) ?_
  obtain ⟨od, J⟩ := inst_of I1 hp hz hf hd
  have fin : ∀ s2, Inv X pins σ H1 s2 → wpAny (model X.prog X.w) X.A (call (.builtin "isinstance") [.ref a, cv]) (EP X pins σ Q) X.xe s2 := fun s2 I2 => by
    obtain ⟨od, J⟩ := inst_of I2 hp hz hf hd
    obtain ⟨cd, hcd⟩ := Option.isSome_iff_exists.mp (show (PySem.W.clsIn X.K C).isSome = true by
      obtain ⟨cd, hc, _⟩ := PySem.W.any_some T.x.hdC
      rw [hc]
      rfl)
    exact PySem.W.kia_one (PySem.W.kitx_exc (od := od) (by rw [hcd]; rfl) T.x.ga T.x.gg T.x.exC T.cl T.sg T.tk T.mo) I2.kIn J e1 (fun z => nomatch z) fun tk => ⟨.bl b, H1, I2.kept (t' := tk) fun _ _ z => z, rfl, q⟩
  obtain ⟨hgy, hdbg, hm | ⟨hm, hv, hnn⟩⟩ := hc
  · exact ld_glob I1 hgy hm (PyProof.Rows.args_nil (fin _ I1)) hdbg
  · exact ld_blt I1 hgy hm hv (PyProof.Rows.args_nil (fin _ I1)) hnn hdbg
/-- e.f -/
def tXfd (a : Addr) (d : Option Addr) (f : Str) (te : TE) : TE := fun σ H Q => te σ H fun x H1 => x = .ref a ∧ ∃ (dd : Addr) (fs : List (Str × V)) (v : V), d = some dd ∧ H1 dd = some (.xd fs) ∧ fs.lookup f = some v ∧ Q v H1
theorem pe_xfd {e : Expr} {te : TE} {n : Str} {pos : Pos} (hp : (a, oe) ∈ X.pn) (T : ClOk X.K C) (hno : PySem.W.findIn X.K (.ref C) n = some none) (hz : Zc (.ref C) d oe) (hf : ∃ vs, oe.data = .fields vs) (he : PE X e te)
    (hb : attributeBase e n X.env (eval e X.env) = eval e X.env) : PE X (.Attribute e n pos) (tXfd a d n te) := by
  refine ⟨fun pins s σ H Q I h => attr_of hb (thn (he.run pins s σ H _ I h) fun u s1 hh => ?_)⟩
  obtain ⟨x, H1, I1, rx, rfl, dd, fs, v, rfl, ea, l, q⟩ := hh
  cases rx
  obtain ⟨ha, _⟩ := I1.pin (a, oe) (List.mem_append_left _ hp)
  obtain ⟨vs, hv⟩ := hf
  have hx : ObjOk X.prog X.w H1 s1.heap dd (.xd fs) := I1.hok dd _ ea
  obtain ⟨mA, hns, hr⟩ := hx
  obtain ⟨od, ho, hl⟩ := lookIn_ns hns
  obtain ⟨u, hu, ru⟩ := RelO.some_of (v := v) (o := mA n) (by rw [← l]; exact hr n)
  have J : PySem.W.InstAt s1.heap a oe C (some od) := ⟨ha, hz.1, by unfold PySem.W.notCls; rw [hv] <;> rfl, by rw [hz.2]; exact ho⟩
  exact HandSPX.exc_get I1.kIn J T.x.ga T.x.gg T.x.exC (PySem.W.findObj_own T.x.hdC hno rfl (by rw [hl, hu])) (handed_of ru) ⟨v, H1, I1.tok _, ru, q⟩
end
/-! ### the classes' own __init__ -/
/-- the base class, read as a class -/
structure BsOk (K : PySem.W.Frag) (B : Addr) : Prop where
  rd : PySem.W.readsIn K B (.type "type") = true
  ga : PySem.W.specialIn K (.ref B) "__getattribute__" = some (some (.builtin "type.__getattribute__"))
  fc : PySem.W.findCls K (.ref B) (.type "type") "__init__" = some (.val (.builtin "ValueError.__init__"))
def bsB (K : PySem.W.Frag) (B : Addr) : Bool := PySem.W.readsIn K B (.type "type") && eqV (PySem.W.specialIn K (.ref B) "__getattribute__") (some (some (.builtin "type.__getattribute__")))
  && (match PySem.W.findCls K (.ref B) (.type "type") "__init__" with
    | some (.val (.builtin n)) => decide (n = "ValueError.__init__")
    | _ => false)
theorem bsB_ok {K : PySem.W.Frag} {B : Addr} (h : bsB K B = true) : BsOk K B := by
  unfold bsB eqV at h
  simp only [Bool.and_eq_true, decide_eq_true_eq] at h
  obtain ⟨⟨h1, h2⟩, h3⟩ := h
  refine ⟨h1, h2, ?_⟩
  split at h3
  · rename_i n e
    rw [e, of_decide_eq_true h3]
  · cases h3
theorem callM_eq {o : Expr} {name : Str} {apos pos : Pos} {args : List Expr} {env : PySem.Env} (hb : attributeBase o name env (eval o env) = eval o env)
    (hf : methodCallForm (args.length + ([] : List Keyword).length) (backTo pos (starEach args env)) (backToKw pos (keywordEach [] env)) = true) (hl : apos.endLine = pos.line) :
    eval (.Call (.Attribute o name apos) args [] pos) env = (do
      let ov ← eval o env
      standAt apos.atName
      let (f, first) ← holding [ov] (getMethod ov name (do return (← importBound o env).getD true))
      callWith pos f first (backTo pos (starEach args env)) (backToKw pos (keywordEach [] env))) := by
  have e : (apos.endLine == pos.line) = true := by rw [hl]; exact beq_self_eq_true _
  rw [arm_eval_Call, hb]
  unfold methodCall calleeOf methodCallPos
  rw [hf, e]
  rfl
/-- what such an __init__ does -/
def spI (G : Gs) (c f : Nat) : Sp := fun vs H Q _ => ∃ (a : Addr) (y : V), vs = [.ref a, y] ∧ H a = some (exo a (G.cls c) none) ∧ ∀ dx, H dx = none → dx ≠ a → Q .non (upd (upd H dx (exd dx [(G.fld f, y)])) a (exo a (G.cls c) (some dx)))
/-- its text -/
def initB (sc : Scope) (b : Str) (N : List Str) (fld : Str) : List Stmt → Bool
  | [.Expr (.Call (.Attribute (.Name b' _) m q2) [.Name s0 _, .Constant (.str _) _ _] [] q5) _, .Assign [.Attribute (.Name s1 _) f _] (.Name v1 _) _] =>
    decide (q2.endLine = q5.line) && decide (b' = b) && decide (m = "__init__") && decide (N = [s0, v1]) && decide (s1 = s0) && decide (f = fld) && glB sc b && visB sc s0 && visB sc v1 && !decide (s0 = "__debug__") && !decide (s0 = "__classdict__") && !decide (v1 = "__debug__") && !decide (v1 = "__classdict__")
  | _ => false
section
variable {X : Cx}
theorem pe_init {b : Str} {B : Addr} {e : Expr} {es : List Expr} {ta : TA} {p1 p2 pos : Pos} (T : BsOk X.K B) (hg : Gl X b) (hm : X.mg b = some (.ref B)) (hdb : (b == ("__debug__" : Str)) = false) (ha : PA X (e :: es) ta)
    {pl : Sem Bool} (hc : eval (.Call (.Attribute (.Name b p1) "__init__" p2) (e :: es) [] pos) X.env = (do
      let ov ← eval (.Name b p1) X.env
      standAt p2.atName
      let (f, first) ← holding [ov] (getMethod ov "__init__" pl)
      callWith pos f first (backTo pos (starEach (e :: es) X.env)) (backToKw pos (keywordEach [] X.env))))
    (he : starEach (e :: es) X.env = (false, eval e X.env) :: starEach es X.env) (hpl : (backTo pos (starEach es X.env)).any (·.1) = false) :
    PE X (.Call (.Attribute (.Name b p1) "__init__" p2) (e :: es) [] pos) (tVeI X.K ta) := by
  refine ⟨fun pins s σ H Q I h => ?_⟩
  refine PySem.W.methodCall_KW (ld_glob I hg hm ?_ hdb) hc
  refine PySem.W.method_cls I.kIn T.ga (PySem.W.cls_value I.kIn T.rd T.fc rfl ?_)
  show wpAny _ _ (callWith pos (Value.builtin "ValueError.__init__") [] (backTo pos (starEach (e :: es) X.env)) []) _ _ _
  refine PyProof.Rows.callWith_method1 (thn (ha.run pos pins _ σ H _ (I.tok _) h) fun us s1 ⟨vs, H1, I1, r1, a, C, ws, ev, hl, T2, ea, q⟩ => ?_) he hpl
  subst ev
  cases r1 with
  | @cons _ u0 _ ur ra rw' =>
    obtain rfl : u0 = Value.ref a := ra
    have hlen : ur.length ≤ sizeLine := by
      rw [← Paired.length rw', sizeLine_eq]
      omega
    exact oinit_ok T2 I1 ea hlen fun s' J => ⟨.non, H1, J, rfl, q⟩
theorem init_ok {P : Program} {w : World} {mg : Str → Option Value} {base : Heap} {G : Gs} {x qual : Str} {params : Arguments} {body : List Stmt} {scope : Scope} {dvs : List V} {kws : List (Str × V)} {fI B : Addr} {fd : FuncData} {N : List Str} {c f : Nat} {b : Str}
    (F : FunD G.K x qual params body scope dvs kws fI fd) (S : FnScope N N scope) (hb : initB scope b N (G.fld f) body = true) (T : ClOk G.K (G.cls c)) (hno : PySem.W.findIn G.K (.ref (G.cls c)) (G.fld f) = some none) (B1 : BsOk G.K B) (hm : mg b = some (.ref B)) :
    FnOk P w G.K mg base (L2.CX P w) 1 fI fd N (spI G c f) := by
  have hN : ∃ s0 v1, N = [s0, v1] := by
    unfold initB at hb
    split at hb
    · simp only [Bool.and_eq_true, decide_eq_true_eq] at hb
      obtain ⟨⟨⟨⟨⟨⟨⟨⟨⟨⟨⟨⟨_, _⟩, _⟩, h3⟩, _⟩, _⟩, _⟩, _⟩, _⟩, _⟩, _⟩, _⟩, _⟩ := hb
      exact ⟨_, _, h3⟩
    · cases hb
  refine F.ok S ?_ ?_
  · rintro vs H Q E ⟨a, y, rfl, _⟩
    obtain ⟨s0, v1, e⟩ := hN
    rw [e]
    rfl
  · rintro cdv A outer s H vs Q E hr ⟨a, y, rfl, ha, hq⟩
    generalize hX : cxOf (L2.CX P w) P w G.K mg base N qual scope fI cdv A outer s H E = X
    have eN : X.N = N := by rw [← hX]; rfl
    have eK : X.K = G.K := by rw [← hX]; rfl
    have eM : X.mg = mg := by rw [← hX]; rfl
    have eS : X.env.scope = scope := by rw [← hX]; rfl
    unfold initB at hb
    split at hb
    · rename_i b' p1 m p2 s0 p3 z k p4 p5 p6 s1 p7 f' p8 v1 p9 p10
      simp only [Bool.and_eq_true, decide_eq_true_eq, Bool.not_eq_true', decide_eq_false_iff_not] at hb
      obtain ⟨⟨⟨⟨⟨⟨⟨⟨⟨⟨⟨⟨h0, h1⟩, h2⟩, h3⟩, h4⟩, h5⟩, h6⟩, h7⟩, h8⟩, h9⟩, h10⟩, h11⟩, h12⟩ := hb
      subst h1 h2 h4 h5
      have g1 : Gl X b' ∧ (b' == ("__debug__" : Str)) = false := by
        unfold glB at h6
        rw [Bool.and_eq_true] at h6
        refine ⟨?_, ?_⟩
        · show X.env.scope.names.lookup b' = _
          rw [eS]
          exact of_decide_eq_true h6.1
        · have : ¬ b' = "__debug__" := by simpa using h6.2
          exact beq_eq_false_iff_ne.mpr this
      have vis : ∀ {x : Str}, visB scope x = true → Vis X.env.scope x := fun {x} g => by
        rw [eS]
        unfold visB at g
        unfold Vis
        cases e : scope.names.lookup x with
        | none => rw [e] at g; cases g
        | some z =>
          rw [e] at g
          cases z <;> first | (cases g; done) | simp
      have e0 : PE X (.Name s1 p3) (tVar 0) := pe_var (by rw [eN, h3]; rfl) (vis h7) (beq_eq_false_iff_ne.mpr h9) (beq_eq_false_iff_ne.mpr h10)
      have e0' : PE X (.Name s1 p7) (tVar 0) := pe_var (by rw [eN, h3]; rfl) (vis h7) (beq_eq_false_iff_ne.mpr h9) (beq_eq_false_iff_ne.mpr h10)
      have e1 : PE X (.Name v1 p9) (tVar 1) := pe_var (by rw [eN, h3]; rfl) (vis h8) (beq_eq_false_iff_ne.mpr h11) (beq_eq_false_iff_ne.mpr h12)
      have B2 : BsOk X.K B := by rw [eK]; exact B1
      have ha2 : PA X [.Name s1 p3, .Constant (.str z) k p4] _ := pa_cons e0 (pa_cons pe_str pa_nil)
      have i1 := pe_init (p1 := p1) (p2 := p2) (pos := p5) B2 g1.1 (by rw [eM]; exact hm) g1.2 ha2 (callM_eq rfl rfl h0) rfl rfl
      refine ⟨_, pss_cons (ps_expr i1 rfl) (pss_cons (ps_ost e0' e1 rfl) pss_nil), ?_⟩
      have es : start N [V.ref a, y] = [some (.ref a), some y] := by rw [h3]; rfl
      rw [es]
      have TT : ClOk X.K (G.cls c) := by rw [eK]; exact T
      refine ⟨_, rfl, ⟨a, G.cls c, _, rfl, Nat.le_of_ble_eq_true rfl, TT.o, ha, ?_⟩⟩
      refine ⟨y, rfl, _, rfl, a, G.cls c, rfl, TT.o, by rw [eK]; exact hno, .inl ⟨ha, fun dx n ne => ?_⟩⟩
      exact hq dx n ne
    · cases hb
end
/-! ### what stands of exceptions, all of it -/
def clsV (G : Gs) (c : Nat) : Value := if c = 100 then .type "ValueError" else .ref (G.cls c)
structure InitOk (P : Program) (w : World) (mg : Str → Option Value) (base : Heap) (G : Gs) (c f : Nat) : Prop where
  ex : ∃ (fI : Addr) (fd : FuncData) (ps : List Str), FnOk P w G.K mg base (L2.CX P w) 1 fI fd ps (spI G c f) ∧ Binds G.K fd ps [] ∧ PySem.W.findIn G.K (.ref (G.cls c)) "__init__" = some (some (.ref fI)) ∧ PySem.W.typeIn G.K (.ref fI) = some (.type "function")
def MadeOk (P : Program) (w : World) (mg : Str → Option Value) (base : Heap) (G : Gs) (c : Nat) : Option Nat → Prop
  | some f => InitOk P w mg base G c f
  | none => PySem.W.excIn G.K (G.cls c) He.veBase "ValueError.__new__" = true
structure ExOk (P : Program) (w : World) (mg : Str → Option Value) (base : Heap) (G : Gs) (xc : Nat → Option (Str × Option Nat)) (xn : Nat → Option Str) (fl : Nat → Option Str) : Prop where
  made : ∀ c nm fo, xc c = some (nm, fo) → c ∈ G.xk ∧ mg nm = some (.ref (G.cls c)) ∧ ClOk G.K (G.cls c) ∧ MadeOk P w mg base G c fo
  names : ∀ c nm, xn c = some nm → (c = 100 ∧ nm = "ValueError" ∧ mg nm = none) ∨ (c ≠ 100 ∧ mg nm = some (.ref (G.cls c)))
  known : ∀ c' nm, xn c' = some nm → ∀ c ∈ G.xk, ClOk G.K (G.cls c) ∧ PySem.W.kitOne G.K (.ref (G.cls c)) (clsV G c') = some (subX c c') ∧ PySem.W.exmOne G.K (.ref (G.cls c)) (clsV G c') = some (subX c c')
  fields : ∀ f nm, fl f = some nm → G.fld f = nm ∧ ∀ c ∈ G.xk, ClOk G.K (G.cls c) ∧ PySem.W.findIn G.K (.ref (G.cls c)) nm = some none
theorem ExOk.nil {P : Program} {w : World} {mg : Str → Option Value} {base : Heap} {G : Gs} : ExOk P w mg base G (fun _ => none) (fun _ => none) (fun _ => none) :=
  ⟨fun _ _ _ h => (by cases h), fun _ _ h => (by cases h), fun _ _ h => (by cases h), fun _ _ h => (by cases h)⟩
theorem ExOk.nameX {X : Cx} {G : Gs} {xc : Nat → Option (Str × Option Nat)} {xn : Nat → Option Str} {fl : Nat → Option Str} (h : ExOk X.prog X.w X.mg X.base G xc xn fl) {c : Nat} {z : Str} (e : xn c = some z) (g : Gl X z) (hd : (z == ("__debug__" : Str)) = false) : Names X z (clsV G c) := by
  refine ⟨g, hd, ?_⟩
  rcases h.names c z e with ⟨rfl, rfl, q⟩ | ⟨hc, q⟩
  · exact .inr ⟨q, by show bootBuiltins "ValueError" = some (.type "ValueError"); exact PyProof.Rows.Boot.«ValueError», by decide⟩
  · exact .inl (by unfold clsV; rw [if_neg hc]; exact q)
end Pk

/-! try .. except A [as n] .. except B [as m] ..: clauses of either kind, any number. -/
namespace Pk
open PySem PySem.Spec PyProof.Rows L2
/-- a clause: the class, the name's slot, what the suite wishes -/
structure Cls where
  c : Value
  nm : Option Nat
  ts : Addr → Value → Option Addr → TS
def Cls.go (l : Cls) (a : Addr) (cls : Value) (d : Option Addr) (D : Ends) (σ : L2.St) (H : Hp) : Prop := match l.nm with
  | none => l.ts a cls d D σ H
  | some i => l.ts a cls d { nx := fun σ' H' => D.nx (σ'.set i none) H', rt := D.rt, bk := fun σ' H' => D.bk (σ'.set i none) H', ct := fun σ' H' => D.ct (σ'.set i none) H' } (σ.set i (some (.ref a))) H
/-- what the clauses wish of an exception of the body -/
def clauses (K : PySem.W.Frag) (Wout : WX) (D : Ends) : List Cls → WX
  | [] => Wout
  | l :: r => fun cls d σ H => ∃ b, PySem.W.exmOne K cls l.c = some b ∧ (b = true → ∀ a, H a = none → l.go a cls d D σ H) ∧ (b = false → clauses K Wout D r cls d σ H)
/-- the name of a clause, in the text and here -/
def nmOk (X : Cx) : Option Str → Option Nat → Prop
  | none, none => True
  | some n, some i => X.N[i]? = some n ∧ X.env.kindOf n = some .local
  | _, _ => False
inductive ClsOk (X : Cx) : List ExceptHandler → List Cls → Prop
  | nil : ClsOk X [] []
  | cons {x : Str} {nt : Option Str} {l : Cls} {b₀ : Stmt} {suite : List Stmt} {np p : Pos} {hds : List ExceptHandler} {ls : List Cls} (hc : Names X x l.c) (hn : nmOk X nt l.nm)
      (hsu : ∀ (a : Addr) (oe : Obj) (cls : Value) (d : Option Addr) (pn : List (Addr × Obj)), Zc cls d oe → (∃ vs, oe.data = .fields vs) → PSs (X.suite a ((a, oe) :: pn)) (b₀ :: suite) (l.ts a cls d)) (r : ClsOk X hds ls) :
      ClsOk X (.ExceptHandler (some (.Name x np)) nt (b₀ :: suite) p :: hds) (l :: ls)
section
variable {X : Cx} {pins : List (Addr × Obj)}
/-- what a suite leaves -/
theorem suite_end {a : Addr} {oe : Obj} {D : Ends} {f : Flow} {s : Shared} (ok : X.Ok) (h : SP (X.suite a ((a, oe) :: (X.pn ++ pins))) [] D f s) : SP X pins D f s := by
  cases f with
  | next =>
    obtain ⟨σ', H', J, q⟩ := h
    exact ⟨_, _, J.unsuite ok, q⟩
  | brk =>
    obtain ⟨σ', H', J, q⟩ := h
    exact ⟨_, _, J.unsuite ok, q⟩
  | cont =>
    obtain ⟨σ', H', J, q⟩ := h
    exact ⟨_, _, J.unsuite ok, q⟩
  | ret u =>
    obtain ⟨v, σ', H', J, r, q⟩ := h
    exact ⟨_, _, _, J.unsuite ok, r, q⟩
theorem try_end {xe : Value → Shared → Prop} {D : Ends} {f : Flow} {s : Shared} (ok : X.Ok) (h : SP (X.tr (X.pn ++ pins) xe) [] D f s) : SP X pins D f s := by
  cases f with
  | next =>
    obtain ⟨σ', H', J, q⟩ := h
    exact ⟨_, _, J.ofTry ok, q⟩
  | brk =>
    obtain ⟨σ', H', J, q⟩ := h
    exact ⟨_, _, J.ofTry ok, q⟩
  | cont =>
    obtain ⟨σ', H', J, q⟩ := h
    exact ⟨_, _, J.ofTry ok, q⟩
  | ret u =>
    obtain ⟨v, σ', H', J, r, q⟩ := h
    exact ⟨_, _, _, J.ofTry ok, r, q⟩
/-- an exception that flies, where it is caught -/
structure Caught (X : Cx) (pins : List (Addr × Obj)) (a : Addr) (B : Heap) (sI s : Shared) (σ : L2.St) (H : Hp) (cls : Value) (d : Option Addr) : Prop where
  J : Inv X pins σ H sI
  nb : ∀ b o, sI.heap.get? b = some o → b ∉ frs X.stack → B.get? b = some o
  na : H a = none
  os : s.os = sI.os
  ag : AllBare s.gens
  fl : HandSPX.FlyingZ B (X.env :: X.outer) a (Zc cls d) s.heap
  up : sI.heap.UpToSlots s.heap
section
variable {a : Addr} {B : Heap} {sI s : Shared} {σ : L2.St} {H : Hp} {cls : Value} {d : Option Addr}
theorem Caught.at (c : Caught X pins a B sI s σ H cls d) (hf : X.env.frame = some X.env.locals) : Inv X pins σ H s ∧ ∃ oe vs, s.heap.get? a = some oe ∧ Zc cls d oe ∧ oe.data = .fields vs ∧ Inv (X.suite a ((a, oe) :: (X.pn ++ pins))) [] σ H s := by
  have J := c.J.landed c.nb c.fl.1 c.up c.os c.ag
  obtain ⟨oe, vs, he, hz, hd⟩ := c.fl.there
  have nfr : a ∉ frs (X.env :: X.outer) := fun hm => by
    obtain ⟨_, o', e', hnf⟩ := c.fl.2.2.1.mem hm
    rw [he] at e'
    cases e'
    exact hnf _ hd
  refine ⟨J, oe, vs, he, hz, hd, J.suite he hd c.na (fun z => nfr (List.mem_filterMap.mpr ⟨X.env, List.mem_cons_self, by rw [hf, z]⟩)) fun hm => ?_⟩
  obtain ⟨e, h1, h2⟩ := List.mem_filterMap.mp hm
  exact nfr (List.mem_filterMap.mpr ⟨e, List.mem_cons_of_mem _ h1, h2⟩)
theorem Caught.again {Q : Unit → Shared → Prop} {M : Model} {A : Around} {E : Value → Shared → Prop} (c : Caught X pins a B sI s σ H cls d) (h : ∀ h', Caught X pins a B sI { s with heap := h' } σ H cls d → Q () { s with heap := h' }) :
    wpAny M A (setFlight (.ref a) none) Q E s :=
  HandSPX.lands_againZ c.fl fun h' fl up => h h' ⟨c.J, c.nb, c.na, c.os, c.ag, fl, c.up.trans up⟩
/-- the clauses, one behind the other -/
theorem Caught.run {Wout : WX} {D : Ends} (hs : X.stack = X.env :: X.outer) (hf : X.env.frame = some X.env.locals) (hN : X.N.Nodup) (tk : Takes X Wout) (c : Caught X pins a B sI s σ H cls d) : ∀ {hds : List ExceptHandler} {ls : List Cls}, ClsOk X hds ls → clauses X.K Wout D ls cls d σ H →
    wpAny (model X.prog X.w) X.A (handleBy (.ref a) X.env hds) (SP X pins D) X.xe s
  | _, _, .nil, w => by
    refine wpAny_handleBy_nil ?_
    obtain ⟨k1, k2, k3, oe, vs, T, oT, ts', he, hz, hd, h1, hr⟩ := id c.fl
    unfold PySem.passOn
    refine wpAny_bind (wpAny_field he hd h1 ?_)
    rw [if_neg (show ¬ ((Value.ref T == Value.none) = true) from by simp)]
    have fin : wpAny (model X.prog X.w) X.A (setFlight (.ref a) X.env.frame) (fun _ s4 => wpAny (model X.prog X.w) X.A (throw (.ref a) : Sem Flow) (SP X pins D) X.xe s4) X.xe s := by
      rw [hf]
      refine HandSPX.setFlight_upZ c.fl fun h4 hh4 up4 => wpAny_throw (tk _ _ ?_)
      exact ⟨a, B, sI, pins, σ, H, cls, d, rfl, c.J, c.nb, c.up.trans up4, .inr (.inr (by rw [hs]; exact hh4)), c.na, c.os, c.ag, w⟩
    first
      | exact wpAny_bind (wpAny_pure (wpAny_bind fin))
      | exact wpAny_bind fin
  | _, _, @ClsOk.cons _ x nt l b₀ suite np p hds ls hc hn hsu r, w => by
    obtain ⟨b, hb1, hyes, hno⟩ := w
    obtain ⟨J, oe, vs, he, hz, hd, S⟩ := c.at hf
    refine wpAny_handleBy_cons (codeAny_handlers_test ?_) (by intro q; cases q)
    have LT : PySem.W.Looks (model X.prog X.w) s.heap (typeOf (.ref a)) cls := fun A Q E s k q => wpAny_typeOf_ref (k _ _ he) (by rw [hz.1]; exact q)
    have LM := PySem.W.exm_one (M := model X.prog X.w) J.kIn LT hb1
    have test : ∀ {Q : Value → Shared → Prop} {E : Value → Shared → Prop}, Q l.c s → wpAny (model X.prog X.w) (X.A.mark (some (.ref a))) (eval (.Name x np) X.env) Q E s := fun {Q E} q => by
      obtain ⟨hg, hdbg, hm | ⟨hm, hv, hnn⟩⟩ := hc
      · exact ld_glob (X := X.suite a ((a, oe) :: (X.pn ++ pins))) S hg hm q hdbg
      · exact ld_blt (X := X.suite a ((a, oe) :: (X.pn ++ pins))) S hg hm hv q hnn hdbg
    refine test (LM.here ?_)
    cases b with
    | false =>
      show wpAny _ X.A (handleBy (.ref a) X.env hds) _ _ _
      exact c.run hs hf hN tk r (hno rfl)
    | true =>
      have hy := hyes rfl a c.na
      unfold Cls.go at hy
      cases hl : l.nm with
      | none =>
        rw [hl] at hy hn
        cases nt with
        | some n => exact hn.elim
        | none =>
          refine codeAny_handlers_suite (c.again fun h4 c4 => ?_)
          obtain ⟨J4, oe4, vs4, he4, hz4, hd4, S4⟩ := c4.at hf
          exact wpAny_mono ((hsu a oe4 cls d (X.pn ++ pins) hz4 ⟨_, hd4⟩).run [] _ _ H _ S4 hy) (fun f s6 hsp => suite_end J.ok hsp) fun _ _ z => z.elim
      | some i =>
        rw [hl] at hy hn
        cases nt with
        | none => exact hn.elim
        | some n =>
          obtain ⟨hi, hln⟩ := hn
          refine codeAny_handlers_suite_as (c.again fun h4 c4 => ?_)
          obtain ⟨J4, oe4, vs4, he4, hz4, hd4, S4⟩ := c4.at hf
          refine store_ok (X := X.suite a ((a, oe4) :: (X.pn ++ pins))) (v := .ref a) S4 hN hi (.inl hln) rfl (fun s5 S5 => ?_) (.inr hln)
          refine wpAny_mono ((hsu a oe4 cls d (X.pn ++ pins) hz4 ⟨_, hd4⟩).run [] s5 _ H _ S5 hy) (fun f s6 hsp => ?_) fun _ _ z => z.elim
          have bye : ∀ {σ6 : L2.St} {H6 : Hp} {Q : Shared → Prop}, Inv (X.suite a ((a, oe4) :: (X.pn ++ pins))) [] σ6 H6 s6 → (∀ s7, Inv X pins (σ6.set i none) H6 s7 → Q s7) →
              wpAny (model X.prog X.w) X.A (do bindName X.env n .none; unbindBehindTheSuite X.env n p) (fun _ s7 => Q s7) X.xe s6 := fun {σ6 H6 Q} S6 hq => gone_ok (S6.unsuite J.ok) hN hi hln hq
          cases f with
          | next =>
            obtain ⟨σ6, H6, S6, q6⟩ := hsp
            exact bye S6 fun s7 J7 => ⟨_, _, J7, q6⟩
          | brk =>
            obtain ⟨σ6, H6, S6, q6⟩ := hsp
            exact bye S6 fun s7 J7 => ⟨_, _, J7, q6⟩
          | cont =>
            obtain ⟨σ6, H6, S6, q6⟩ := hsp
            exact bye S6 fun s7 J7 => ⟨_, _, J7, q6⟩
          | ret u =>
            obtain ⟨v6, σ6, H6, S6, r6, q6⟩ := hsp
            exact bye S6 fun s7 J7 => ⟨_, _, _, J7, r6, q6⟩
end
theorem ps_clauses {ι : Type} {wi : ι → WX} {tb : ι → TS} {Wout : WX} {body : List Stmt} {h₀ : ExceptHandler} {hds : List ExceptHandler} {pos : Pos} (hs : X.stack = X.env :: X.outer) (hf : X.env.frame = some X.env.locals) (hN : X.N.Nodup) (tk : Takes X Wout)
    (hb : ∀ (p : ι) (pn : List (Addr × Obj)) (xe : Value → Shared → Prop), Takes (X.tr pn xe) (wi p) → PassesOwn (model X.prog X.w) X.A X.env xe → PSs (X.tr pn xe) body (tb p)) :
    PS X (.Try body (h₀ :: hds) [] [] pos) (fun D σ H => ∃ (p : ι) (ls : List Cls), ClsOk X (h₀ :: hds) ls ∧ tb p D σ H ∧ ∀ cls d σ' H', wi p cls d σ' H' → clauses X.K Wout D ls cls d σ' H') := by
  refine ⟨fun pins s σ H D I h => ?_⟩
  obtain ⟨p, ls, hk, ht, hw⟩ := h
  have ok := I.ok
  have hfr : X.A.frames = some (X.env :: X.outer) := by rw [ok.frames, hs]
  refine wpAny_Try_except (wpAny_mono ((hb p (X.pn ++ pins) (fun e s₁ => wpAny (model X.prog X.w) X.A (noteFrame e X.env) (fun _ s₂ => wpAny (model X.prog X.w) X.A (setFlight e none) (fun _ s₃ =>
    wpAny (model X.prog X.w) X.A (handleBy e X.env (h₀ :: hds)) (SP X pins D) X.xe s₃) X.xe s₂) X.xe s₁) (fun u s' xx => ?_) PassesOwn.looking).run [] s σ H D (I.toTry _) ht) (fun f s1 hsp => ?_) fun e s1 he => he)
  · obtain ⟨a, B, sI, pins', σ', H', cls, d, rfl, J', nb, up, sky, na, os, ag, w0⟩ := xx
    have w := hw _ _ _ _ w0
    have J : Inv X pins σ' H' sI := J'.ofTry ok
    rw [hs] at sky
    show wpAny (model X.prog X.w) X.A (noteFrame (.ref a) X.env) _ _ _
    refine Sky.land Zc.steady hfr hf sky fun h3 fl up3 => ?_
    exact Caught.run (s := { s' with heap := h3 }) hs hf hN tk ⟨J, nb, na, os, ag, fl, up.trans up3⟩ hk w
  · have q := try_end ok hsp
    cases f with
    | next => exact wpAny_execs_nil q
    | _ => exact q
end
end Pk

/-! Each form of our language is sound over the layer: expressions. -/
namespace Pk
open PySem L2
/-! ### what a form may cost in draws -/
mutual
def cE (cst : Nat → Nat) : E → Nat
  | .var _ => 0 | .non => 0 | .bl _ => 0 | .int _ => 0 | .str _ => 0 | .glob _ => 0
  | .op2 _ a b => cE cst a + cE cst b
  | .neg a => cE cst a
  | .cmp _ a b => cE cst a + cE cst b
  | .chain _ _ a b e => cE cst a + cE cst b + cE cst e
  | .and a b => cE cst a + cE cst b
  | .or a b => cE cst a + cE cst b
  | .not a => cE cst a
  | .ife t a b => cE cst t + (cE cst a + cE cst b)
  | .tup es => cEs cst es
  | .lst es => cEs cst es
  | .ix a b => cE cst a + cE cst b
  | .slc a lo hi => cE cst a + cEo cst lo + cEo cst hi
  | .rev a => cE cst a
  | .call f es => cEs cst es + cst f
  | .calld f es _ => cEs cst es + cst f
  | .bi _ es => cEs cst es
  | .sm _ a e => cE cst a + cE cst e
  | .cntT a => cE cst a
  | .up a => cE cst a
  | .isi a _ => cE cst a
  | .comp _ elt _ it c => cIt cst it + line * (cEo cst c + cE cst elt)
  | .ssc _ _ _ elt _ it c => cIt cst it + line * (cEo cst c + cE cst elt)
  | .bx e => cE cst e
  | .comp2 _ _ elt _ it c _ it1 c1 => cIt cst it + line * (cEo cst c + (cIt cst it1 + line * (cEo cst c1 + cE cst elt)))
  | .sset _ e => cE cst e
  | .xfld _ _ => 0
  | .xis _ _ => 0
  | .callx f _ => cst f
  | .fst es => cEs cst es
  | .mth _ a es => cE cst a + cEs cst es
  | .lrg a => cE cst a
  | .inD _ a b => cE cst a + cE cst b
  | .fld a _ => cE cst a
  | .meth f _ a es _ => cE cst a + (cEs cst es + cst f)
  | .make f es => cEs cst es + cst f
def cEs (cst : Nat → Nat) : Es → Nat
  | .nil => 0
  | .cons e r => cE cst e + cEs cst r
def cEo (cst : Nat → Nat) : Eo → Nat
  | .none => 0
  | .some e => cE cst e
def cIt (cst : Nat → Nat) : It → Nat
  | .seq e => cE cst e
  | .rng e => cE cst e
  | .rng2 a b => cE cst a + cE cst b
  | .enm e => cE cst e
  | .zip a b => cE cst a + cE cst b
  | .en1 e => cE cst e
end
def Cn.v : Cn → V
  | .non => .non
  | .bl b => .bl b
  | .int i => .int i
  | .str s => .str ⟨s.toArray⟩
theorem Cn.rep {G : Gs} {W : Kn} (c : Cn) : Rep G W c.v c.d := by
  cases c
  · exact .non
  · exact .bl _
  · exact .int _
  · exact .str _
theorem Cn.reps {G : Gs} {W : Kn} : ∀ cs : List Cn, RepL G W (cs.map Cn.v) (cs.map Cn.d)
  | [] => .nil
  | c :: cs => .cons c.rep (Cn.reps cs)
/-- a def's promise: what our language says that it does -/
def spD (G : Gs) (Φ : Fs) (cst : Nat → Nat) (f : Nat) : Sp := fun vs H QV E => ∃ (W : Kn) (m : Mu) (ds : List D) (Q : Pq) (X : Px), Φ true f ds m Q X ∧ SRel0 G W m H ∧ RepL G W vs ds ∧ W.n + cst f ≤ LIM ∧
  (∀ d m' v H' W', Step W m H W' m' H' (cst f) → SRel0 G W' m' H' → Rep G W' v d → Q d m' → QV v H') ∧
  ∀ x m' H' W' cls d, Step W m H W' m' H' (cst f) → SRel0 G W' m' H' → RepX G W' H' x cls d → X x m' → E cls d H'
/-- what is handed in where something is being handled: values, or an exception alone -/
def ArgN (G : Gs) (W : Kn) (H : Hp) (pn : List (Addr × Obj)) (vs : List V) (ds : List D) : Prop := RepL G W vs ds ∨ ∃ (t : Xn) (oe : Obj), vs = [.ref t.a] ∧ ds = [.exn t.c t.fs] ∧ (t.a, oe) ∈ pn ∧ Zc (.ref (G.cls t.c)) t.d oe ∧ (∃ fv, oe.data = .fields fv) ∧ RepX G W H ⟨t.c, t.fs⟩ (.ref (G.cls t.c)) t.d
/-- .. where something may be being handled: nothing is raised -/
def spN (G : Gs) (Φ : Fs) (cst : Nat → Nat) (f : Nat) (pn : List (Addr × Obj)) : Sp := fun vs H QV _ => ∃ (W : Kn) (m : Mu) (ds : List D) (Q : Pq), Φ false f ds m Q NoX ∧ SRel0 G W m H ∧ ArgN G W H pn vs ds ∧ W.n + cst f ≤ LIM ∧
  ∀ d m' v H' W', Step W m H W' m' H' (cst f) → SRel0 G W' m' H' → Rep G W' v d → Q d m' → QV v H'
/-- an __init__'s promise: H0 is the heap ahead of the instance -/
def spK (G : Gs) (Φ : Fs) (cst : Nat → Nat) (c f : Nat) : Sp := fun vs H QV E => ∃ (x dx : Addr) (vs' : List V) (W : Kn) (m : Mu) (ds : List D) (Q : Pq) (X : Px) (H0 : Hp), vs = .ref x :: vs' ∧ H0 x = none ∧ H0 dx = none ∧ dx ≠ x ∧ H = upd (upd H0 dx (.own x)) x (.ins (G.cls c) dx []) ∧
  Φ true f ds m Q X ∧ SRel0 G W m H0 ∧ RepL G W vs' ds ∧ W.n + cst f ≤ LIM ∧
  (∀ d m' H' W', Step W m H0 W' m' H' (cst f) → SRel0 G W' m' H' → Rep G W' (.ref x) d → Q d m' → QV .non H') ∧
  ∀ x m' H' W' cls d, Step W m H0 W' m' H' (cst f) → SRel0 G W' m' H' → RepX G W' H' x cls d → X x m' → E cls d H'
/-- what is known of own classes -/
structure OwOk (P : Program) (w : World) (mg : Str → Option Value) (base : Heap) (G : Gs) (Φ : Fs) (cst : Nat → Nat) (k : Nat) (ofl : Nat → Option Str) (omt omk : Nat → Option (Nat × Str)) (dfl : Nat → List Cn) : Prop where
  cls : ∀ c ∈ G.oc, L2.Cls G.K (G.cls c) ∧ ∀ f ∈ G.ofs c, L2.NoAttr G.K (G.cls c) (G.fld f)
  inj : ∀ c ∈ G.oc, ∀ f ∈ G.ofs c, ∀ g ∈ G.ofs c, G.fld f = G.fld g → f = g
  fl : ∀ f nm, ofl f = some nm → G.fld f = nm
  meth : ∀ f c nm, omt f = some (c, nm) → c ∈ G.oc ∧ (∀ g ∈ G.ofs c, G.fld g ≠ nm) ∧ ∃ (fa : Addr) (fd : FuncData) (ps : List Str), L2.Meth G.K (G.cls c) nm fa ∧ FnOk P w G.K mg base (L2.CX P w) k fa fd ps (spD G Φ cst f) ∧ Binds G.K fd ps [] ∧ ∀ j, j < (dfl f).length → ∃ us, Vals (((dfl f).drop j).map Cn.v) us ∧ Binds G.K fd ps us
  make : ∀ f c nm, omk f = some (c, nm) → c ∈ G.oc ∧ mg nm = some (.ref (G.cls c)) ∧ ∃ (fa : Addr) (fd : FuncData) (ps : List Str) (k' : Nat), k = k' + 1 ∧ L2.Mk G.K (G.cls c) fa ∧ FnOk P w G.K mg base (L2.CX P w) k' fa fd ps (spK G Φ cst c f) ∧ Binds G.K fd ps []
/-- what is wished for of an exception, in a body -/
def wishX {G : Gs} (Z : Zs G) (px : PxE) : WX := fun cls d s H => ∃ x W m σ, SRel Z W m H ∧ SlotR Z W σ s ∧ W.n ≤ Z.lim ∧ RepX G W H x cls d ∧ px x σ m
structure XOk {G : Gs} (Z : Zs G) (px : PxE) (cm : Bool) (cst : Nat → Nat) (Φ : Fs) (gv : Nat → D) (k : Nat) (C : Ct) (X : Cx) : Prop where
  N : X.N = C.N
  nd : C.N.Nodup
  sc : X.env.scope = C.sc
  fn : ∀ x, C.fn x = true → X.fn x = true
  K : X.K = G.K
  calm : cm = true → X.calm = true
  room : cm = true → Room k X.A
  rooH : L2H.RoomH k X.A
  lim : Z.lim ≤ LIM
  tk : Takes X (wishX Z px)
  nox : cm = false → px = pF
  call : ∀ f nm, C.fnm f = some nm → ∃ (fa : Addr) (fd : FuncData) (ps : List Str), X.mg nm = some (.ref fa) ∧ PySem.W.keepIn X.K (.ref fa) = true ∧ FnOk X.prog X.w X.K X.mg X.base (L2.CX X.prog X.w) k fa fd ps (spD G Φ cst f) ∧ Binds X.K fd ps [] ∧ ∀ j, j < (C.dfl f).length → ∃ us, Vals (((C.dfl f).drop j).map Cn.v) us ∧ Binds X.K fd ps us
  callN : ∀ f nm, C.fnm f = some nm → ∃ (fa : Addr) (fd : FuncData) (ps : List Str), X.mg nm = some (.ref fa) ∧ PySem.W.keepIn X.K (.ref fa) = true ∧ FnN X.prog X.w X.K X.mg X.base (L2.CX X.prog X.w) k fa fd ps (spN G Φ cst f) ∧ Binds X.K fd ps [] ∧ ∀ j, j < (C.dfl f).length → ∃ us, Vals (((C.dfl f).drop j).map Cn.v) us ∧ Binds X.K fd ps us
  glob : ∀ g nm, C.gnm g = some nm → ∃ (u : Value) (v : V), X.mg nm = some u ∧ RelV v u ∧ ∀ W, Rep G W v (gv g)
  bl : ∀ x, C.bl.contains x = true → X.mg x = none
  ex : ExOk X.prog X.w X.mg X.base G C.xc C.xn C.fl
  xs : ∀ i t, Z.xs = some (i, t) → ∃ oe, (t.a, oe) ∈ X.pn ∧ Zc (.ref (G.cls t.c)) t.d oe ∧ ∃ fv, oe.data = .fields fv
  xs0 : cm = true → Z.xs = none
  k2 : ∀ c z, C.xc c = some z → 2 ≤ k
  ow : OwOk X.prog X.w X.mg X.base G Φ cst k C.ofl C.omt C.omk C.dfl
section
variable {G : Gs} {Z : Zs G} {px : PxE} {cm : Bool} {cst : Nat → Nat} {Φ : Fs} {gv : Nat → D} {k : Nat} {C : Ct} {X : Cx}
theorem XOk.units (h : XOk Z px cm cst Φ gv k C X) : X.A.units + 64 < cLine := by
  have := h.rooH.un
  omega
/-! ### small looks -/
theorem star1 {e : Expr} {es : List Expr} {env : PySem.Env} (h : notStar e = true) : starEach (e :: es) env = (false, eval e env) :: starEach es env := by
  cases e <;> first | rfl | cases h
theorem star_plain {pos : Pos} {env : PySem.Env} : ∀ {es : List Expr}, es.all notStar = true → (backTo pos (starEach es env)).any (·.1) = false
  | [], _ => rfl
  | e :: es, h => by
    rw [List.all_cons] at h
    obtain ⟨h1, h2⟩ := Bool.and_eq_true_iff.mp h
    rw [star1 h1]
    have ih := star_plain (pos := pos) (env := env) h2
    unfold backTo at *
    rw [List.map_cons, List.any_cons, ih]
    rfl
theorem nomark_of {op : CmpOp} {b : Expr} (h : notSet b = true) : behindInMarks op b = false := by
  cases b <;> first | rfl | cases h
theorem plainIx_of {b : Expr} (h : notSlice b = true) : PlainIx b := by
  cases b <;> first | (intro _ _; rfl) | cases h
theorem gl_of {x : Str} (h : XOk Z px cm cst Φ gv k C X) (g : glB C.sc x = true) : Gl X x ∧ (x == ("__debug__" : Str)) = false := by
  unfold glB at g
  obtain ⟨g1, g2⟩ := Bool.and_eq_true_iff.mp g
  refine ⟨?_, ?_⟩
  · show X.env.scope.names.lookup x = _
    rw [h.sc]
    exact of_decide_eq_true g1
  · have : ¬ x = "__debug__" := by
      intro e
      rw [decide_eq_true e] at g2
      cases g2
    exact beq_eq_false_iff_ne.mpr this
theorem bl_of {x : Str} (h : XOk Z px cm cst Φ gv k C X) (g : blB C x = true) : Gl X x ∧ (x == ("__debug__" : Str)) = false ∧ X.mg x = none := by
  unfold blB at g
  obtain ⟨g1, g2⟩ := Bool.and_eq_true_iff.mp g
  obtain ⟨q1, q2⟩ := gl_of h g1
  exact ⟨q1, q2, h.bl x g2⟩
theorem vis_of {x : Str} (h : XOk Z px cm cst Φ gv k C X) (g : visB C.sc x = true) : Vis X.env.scope x := by
  rw [h.sc]
  unfold visB at g
  unfold Vis
  cases e : C.sc.names.lookup x with
  | none => rw [e] at g; cases g
  | some z =>
    rw [e] at g
    cases z <;> first | (cases g; done) | simp
/-! ### the forms -/
abbrev OkP {G : Gs} (Z : Zs G) (X : Cx) (l : Lk) (w : Wp) (c : Nat) : Prop := ∀ pe, l pe = true → PE X pe (tE Z w c)
theorem rep_not_un {W : Kn} {v : V} {d : D} (r : Rep G W v d) : isUn d = false := by cases r <;> rfl
theorem snd_var (h : XOk Z px cm cst Φ gv k C X) (i : Nat) : OkP Z X (mVar C i) (fun σ m Q => wpE Φ gv cm (.var i) σ m Q (px.at σ)) 0 := by
  intro pe hl
  unfold mVar at hl
  split at hl
  · rename_i x pos
    simp only [Bool.and_eq_true, decide_eq_true_eq, Bool.not_eq_true', decide_eq_false_iff_not] at hl
    obtain ⟨⟨⟨h1, h2⟩, h3⟩, h4⟩ := hl
    refine PE.of (pe_var (i := i) (by rw [h.N]; exact h1) (vis_of h h2) (beq_eq_false_iff_ne.mpr h3) (beq_eq_false_iff_ne.mpr h4)) ?_
    intro s H QV q
    obtain ⟨W, m, σ, Q, hw, S, L, hn, kq⟩ := q
    obtain ⟨d, e1, e2, e3⟩ := hw
    have hu : isUn d = false := e2
    obtain ⟨v, q1, q2⟩ := L.at_ i d e1 hu
    exact ⟨v, q1, kq d m v H W (Step.refl ..) S q2 e3⟩
  · cases hl
theorem snd_c {d : D} {v : V} {pe : Expr} {w : Wp} (hp : PE X pe (tC v)) (hr : ∀ W, Rep G W v d) (hw : ∀ σ m Q, w σ m Q → Q d m) : PE X pe (tE Z w 0) := by
  refine PE.of hp ?_
  intro s H QV q
  obtain ⟨W, m, σ, Q, q1, S, L, hn, kq⟩ := q
  exact kq d m v H W (Step.refl ..) S (hr W) (hw _ _ _ q1)
theorem snd_non : OkP Z X mNon (fun σ m Q => wpE Φ gv cm .non σ m Q (px.at σ)) 0 := by
  intro pe hl
  unfold mNon at hl
  split at hl
  · exact snd_c pe_non (fun _ => .non) fun _ _ _ q => q
  · cases hl
theorem snd_bl (b : Bool) : OkP Z X (mBl b) (fun σ m Q => wpE Φ gv cm (.bl b) σ m Q (px.at σ)) 0 := by
  intro pe hl
  unfold mBl at hl
  split at hl
  · have e := of_decide_eq_true hl
    subst e
    exact snd_c pe_bl (fun _ => .bl _) fun _ _ _ q => q
  · cases hl
theorem snd_int (b : Int) : OkP Z X (mInt b) (fun σ m Q => wpE Φ gv cm (.int b) σ m Q (px.at σ)) 0 := by
  intro pe hl
  unfold mInt at hl
  split at hl
  · have e := of_decide_eq_true hl
    subst e
    exact snd_c pe_int (fun _ => .int _) fun _ _ _ q => q
  · cases hl
theorem snd_str (b : List Nat) : OkP Z X (mStr b) (fun σ m Q => wpE Φ gv cm (.str b) σ m Q (px.at σ)) 0 := by
  intro pe hl
  unfold mStr at hl
  split at hl
  · rename_i z _ _
    have e := of_decide_eq_true hl
    subst e
    have e2 : z = ⟨z.cps.toList.toArray⟩ := by cases z; simp
    refine snd_c pe_str (fun _ => ?_) fun _ _ _ q => q
    have r : ∀ W, Rep G W (.str ⟨z.cps.toList.toArray⟩) (.str z.cps.toList) := fun W => .str _
    rw [← e2] at r
    exact r _
  · cases hl
theorem snd_glob (h : XOk Z px cm cst Φ gv k C X) (g : Nat) : OkP Z X (mGlob C g) (fun σ m Q => wpE Φ gv cm (.glob g) σ m Q (px.at σ)) 0 := by
  intro pe hl
  unfold mGlob at hl
  split at hl
  · rename_i x _
    obtain ⟨h1, h2⟩ := Bool.and_eq_true_iff.mp hl
    obtain ⟨u, v, q1, q2, q3⟩ := h.glob g x (of_decide_eq_true h1)
    obtain ⟨g1, g2⟩ := gl_of h h2
    exact snd_c (pe_glob g1 q1 q2 g2) q3 fun _ _ _ q => q
  · cases hl
theorem snd_op2 (h : XOk Z px cm cst Φ gv k C X) (o : O2) {a b : E} {la lb : Lk} (ha : OkP Z X la (fun σ m Q => wpE Φ gv cm a σ m Q (px.at σ)) (cE cst a)) (hb : OkP Z X lb (fun σ m Q => wpE Φ gv cm b σ m Q (px.at σ)) (cE cst b)) :
    OkP Z X (mOp2 o la lb) (fun σ m Q => wpE Φ gv cm (.op2 o a b) σ m Q (px.at σ)) (cE cst a + cE cst b) := by
  intro pe hl
  unfold mOp2 at hl
  split at hl
  · simp only [Bool.and_eq_true, decide_eq_true_eq] at hl
    obtain ⟨⟨h1, h2⟩, h3⟩ := hl
    subst h1
    refine PE.of (pe_op (opOk (Z := Z) h.K o) (ha _ h2) (hb _ h3)) ?_
    intro s H QV q
    obtain ⟨W, m, σ, Q, hw, S, L, hn, kq⟩ := q
    refine ⟨W, m, σ, _, hw, S, L, by omega, fun dx m1 vx H1 W1 st1 S1 rx q1 => ?_⟩
    have n1 := st1.n
    refine ⟨W1, m1, σ, _, q1, S1, L.mono st1.le, by omega, fun dy m2 vy H2 W2 st2 S2 ry q2 => ?_⟩
    refine ⟨W2, m2, dx, dy, _, q2, S2, Rep.mono st2.le _ rx, ry, fun d v H' W' st3 S3 r q => ?_⟩
    exact kq d m2 v H' W' ((Step.trans S2 (Step.trans S1 st1 st2) st3).weak (by omega)) S3 r q
  · cases hl
theorem snd_neg {a : E} {la : Lk} (ha : OkP Z X la (fun σ m Q => wpE Φ gv cm a σ m Q (px.at σ)) (cE cst a)) : OkP Z X (mNeg la) (fun σ m Q => wpE Φ gv cm (.neg a) σ m Q (px.at σ)) (cE cst a) := by
  intro pe hl
  unfold mNeg at hl
  split at hl
  · refine PE.of (pe_un un_neg (ha _ hl)) ?_
    intro s H QV q
    obtain ⟨W, m, σ, Q, hw, S, L, hn, kq⟩ := q
    refine ⟨W, m, σ, _, hw, S, L, by omega, fun dx m1 vx H1 W1 st1 S1 rx q1 => ?_⟩
    cases dx with
    | int i =>
      cases rx
      exact ⟨i, rfl, kq _ m1 _ H1 W1 st1 S1 (.int _) q1⟩
    | _ => exact q1.elim
  · cases hl
theorem cmp_imp {c : C2} {a b : E} {s : List (Option V)} {H : Hp} {QV : VK} {w : Wp} (hw : ∀ σ m Q, w σ m Q → wpE Φ gv cm a σ m (fun x m1 => wpE Φ gv cm b σ m1 (fun y m2 => cmpR c (rd m2 x) (rd m2 y) fun k => Q (.bl k) m2) (px.at σ)) (px.at σ))
    (q : tE Z w (cE cst a + cE cst b) s H QV) : tOp (rC Z c) (tE Z (fun σ m Q => wpE Φ gv cm a σ m Q (px.at σ)) (cE cst a)) (tE Z (fun σ m Q => wpE Φ gv cm b σ m Q (px.at σ)) (cE cst b)) s H QV := by
  obtain ⟨W, m, σ, Q, hw1, S, L, hn, kq⟩ := q
  refine ⟨W, m, σ, _, hw _ _ _ hw1, S, L, by omega, fun dx m1 vx H1 W1 st1 S1 rx q1 => ?_⟩
  have n1 := st1.n
  refine ⟨W1, m1, σ, _, q1, S1, L.mono st1.le, by omega, fun dy m2 vy H2 W2 st2 S2 ry q2 => ?_⟩
  refine ⟨W2, m2, dx, dy, _, q2, S2, Rep.mono st2.le _ rx, ry, fun k q => ?_⟩
  exact kq _ m2 _ H2 W2 (Step.trans S1 st1 st2) S2 (.bl _) q
theorem snd_cmp (h : XOk Z px cm cst Φ gv k C X) (c : C2) {a b : E} {la lb : Lk} (ha : OkP Z X la (fun σ m Q => wpE Φ gv cm a σ m Q (px.at σ)) (cE cst a)) (hb : OkP Z X lb (fun σ m Q => wpE Φ gv cm b σ m Q (px.at σ)) (cE cst b)) :
    OkP Z X (mCmp c la lb) (fun σ m Q => wpE Φ gv cm (.cmp c a b) σ m Q (px.at σ)) (cE cst a + cE cst b) := by
  intro pe hl
  unfold mCmp at hl
  split at hl
  · simp only [Bool.and_eq_true, decide_eq_true_eq] at hl
    obtain ⟨⟨⟨h1, h2⟩, h3⟩, h4⟩ := hl
    subst h1
    refine PE.of (pe_cmpR (cmpOk (Z := Z) h.K h.units c) (ha _ h3) (hb _ h4) (nomark_of h2)) fun s H QV q => cmp_imp (fun _ _ _ q => q) q
  · cases hl
end
end Pk

/-! More forms: chains, and, or, not, displays, subscripts, calls. -/
namespace Pk
open PySem L2
section
variable {G : Gs} {Z : Zs G} {px : PxE} {cm : Bool} {cst : Nat → Nat} {Φ : Fs} {gv : Nat → D} {k : Nat} {C : Ct} {X : Cx}
theorem chain_imp {c d : C2} {a b e : E} {s : List (Option V)} {H : Hp} {QV : VK} {w : Wp} (hw : ∀ σ m Q, w σ m Q → wpE Φ gv cm a σ m (fun x m1 => wpE Φ gv cm b σ m1 (fun y m2 => cmpR c (rd m2 x) (rd m2 y) fun k =>
      if k = true then wpE Φ gv cm e σ m2 (fun z m3 => cmpR d (rd m3 y) (rd m3 z) fun k2 => Q (.bl k2) m3) (px.at σ) else Q (.bl false) m2) (px.at σ)) (px.at σ))
    (q : tE Z w (cE cst a + cE cst b + cE cst e) s H QV) : tChain (rC Z c) (rC Z d) (tE Z (fun σ m Q => wpE Φ gv cm a σ m Q (px.at σ)) (cE cst a)) (tE Z (fun σ m Q => wpE Φ gv cm b σ m Q (px.at σ)) (cE cst b)) (tE Z (fun σ m Q => wpE Φ gv cm e σ m Q (px.at σ)) (cE cst e)) s H QV := by
  obtain ⟨W, m, σ, Q, hw1, S, L, hn, kq⟩ := q
  refine ⟨W, m, σ, _, hw _ _ _ hw1, S, L, by omega, fun dx m1 vx H1 W1 st1 S1 rx q1 => ?_⟩
  have n1 := st1.n
  refine ⟨W1, m1, σ, _, q1, S1, L.mono st1.le, by omega, fun dy m2 vy H2 W2 st2 S2 ry q2 => ?_⟩
  have n2 := st2.n
  have L2' := (L.mono st1.le).mono st2.le
  refine ⟨W2, m2, dx, dy, _, q2, S2, Rep.mono st2.le _ rx, ry, fun k q => ⟨k, rfl, ?_⟩⟩
  cases k with
  | false => exact kq _ m2 _ H2 W2 ((Step.trans S1 st1 st2).weak (by omega)) S2 (.bl _) q
  | true =>
    rw [if_pos rfl] at q
    rw [if_pos rfl]
    refine ⟨W2, m2, σ, _, q, S2, L2', by omega, fun dz m3 vz H3 W3 st3 S3 rz q3 => ?_⟩
    refine ⟨W3, m3, dy, dz, _, q3, S3, Rep.mono st3.le _ ry, rz, fun k2 q4 => ?_⟩
    exact kq _ m3 _ H3 W3 ((Step.trans S2 (Step.trans S1 st1 st2) st3).weak (by omega)) S3 (.bl _) q4
theorem lastMarks2 {o p : CmpOp} {b e : Expr} (h : notSet e = true) : lastMarks [o, p] [b, e] = false := nomark_of h
theorem snd_chain (h : XOk Z px cm cst Φ gv k C X) (c d : C2) {a b e : E} {la lb le : Lk} (ha : OkP Z X la (fun σ m Q => wpE Φ gv cm a σ m Q (px.at σ)) (cE cst a)) (hb : OkP Z X lb (fun σ m Q => wpE Φ gv cm b σ m Q (px.at σ)) (cE cst b)) (he : OkP Z X le (fun σ m Q => wpE Φ gv cm e σ m Q (px.at σ)) (cE cst e)) :
    OkP Z X (mChain c d la lb le) (fun σ m Q => wpE Φ gv cm (.chain c d a b e) σ m Q (px.at σ)) (cE cst a + cE cst b + cE cst e) := by
  intro pe hl
  unfold mChain at hl
  split at hl
  · simp only [Bool.and_eq_true, decide_eq_true_eq] at hl
    obtain ⟨⟨⟨⟨⟨⟨h1, h2⟩, h3⟩, h4⟩, h5⟩, h6⟩, h7⟩ := hl
    subst h1 h2
    exact PE.of (pe_chain (cmpOk (Z := Z) h.K h.units c) (cmpOk (Z := Z) h.K h.units d) (ha _ h5) (hb _ h6) (he _ h7) (lastMarks2 h4)) fun s H QV q => chain_imp (fun _ _ _ q => q) q
  · cases hl
theorem snd_and (h : XOk Z px cm cst Φ gv k C X) {a b : E} {la lb : Lk} (ha : OkP Z X la (fun σ m Q => wpE Φ gv cm a σ m Q (px.at σ)) (cE cst a)) (hb : OkP Z X lb (fun σ m Q => wpE Φ gv cm b σ m Q (px.at σ)) (cE cst b)) :
    OkP Z X (mAnd la lb) (fun σ m Q => wpE Φ gv cm (.and a b) σ m Q (px.at σ)) (cE cst a + cE cst b) := by
  have key : ∀ s H QV, tE Z (fun σ m Q => wpE Φ gv cm (.and a b) σ m Q (px.at σ)) (cE cst a + cE cst b) s H QV → tAndT X.K (tE Z (fun σ m Q => wpE Φ gv cm a σ m Q (px.at σ)) (cE cst a)) (tE Z (fun σ m Q => wpE Φ gv cm b σ m Q (px.at σ)) (cE cst b)) s H QV := by
    intro s H QV q
    obtain ⟨W, m, σ, Q, hw, S, L, hn, kq⟩ := q
    refine ⟨W, m, σ, _, hw, S, L, by omega, fun dx m1 vx H1 W1 st1 S1 rx q1 => ?_⟩
    have n1 := st1.n
    obtain ⟨t, e1, q1⟩ := q1
    refine ⟨t, tru_rd h.K S1 rx e1, ?_⟩
    cases t with
    | false => exact kq _ m1 _ H1 W1 (st1.weak (by omega)) S1 rx q1
    | true =>
      rw [if_pos rfl] at q1
      rw [if_pos rfl]
      refine ⟨W1, m1, σ, _, q1, S1, L.mono st1.le, by omega, fun dy m2 vy H2 W2 st2 S2 ry q2 => ?_⟩
      exact kq _ m2 _ H2 W2 (Step.trans S1 st1 st2) S2 ry q2
  intro pe hl
  unfold mAnd at hl
  split at hl
  · obtain ⟨h1, h2⟩ := Bool.and_eq_true_iff.mp hl
    split at h2
    · exact PE.of (pe_andT (ha _ h1) (pe_one (hb _ h2))) key
    · exact PE.of (pe_andT (ha _ h1) (hb _ h2)) key
  · cases hl
theorem snd_or (h : XOk Z px cm cst Φ gv k C X) {a b : E} {la lb : Lk} (ha : OkP Z X la (fun σ m Q => wpE Φ gv cm a σ m Q (px.at σ)) (cE cst a)) (hb : OkP Z X lb (fun σ m Q => wpE Φ gv cm b σ m Q (px.at σ)) (cE cst b)) :
    OkP Z X (mOr la lb) (fun σ m Q => wpE Φ gv cm (.or a b) σ m Q (px.at σ)) (cE cst a + cE cst b) := by
  have key : ∀ s H QV, tE Z (fun σ m Q => wpE Φ gv cm (.or a b) σ m Q (px.at σ)) (cE cst a + cE cst b) s H QV → tOrT X.K (tE Z (fun σ m Q => wpE Φ gv cm a σ m Q (px.at σ)) (cE cst a)) (tE Z (fun σ m Q => wpE Φ gv cm b σ m Q (px.at σ)) (cE cst b)) s H QV := by
    intro s H QV q
    obtain ⟨W, m, σ, Q, hw, S, L, hn, kq⟩ := q
    refine ⟨W, m, σ, _, hw, S, L, by omega, fun dx m1 vx H1 W1 st1 S1 rx q1 => ?_⟩
    have n1 := st1.n
    obtain ⟨t, e1, q1⟩ := q1
    refine ⟨t, tru_rd h.K S1 rx e1, ?_⟩
    cases t with
    | true => exact kq _ m1 _ H1 W1 (st1.weak (by omega)) S1 rx q1
    | false =>
      rw [if_neg Bool.false_ne_true] at q1
      rw [if_neg Bool.false_ne_true]
      refine ⟨W1, m1, σ, _, q1, S1, L.mono st1.le, by omega, fun dy m2 vy H2 W2 st2 S2 ry q2 => ?_⟩
      exact kq _ m2 _ H2 W2 (Step.trans S1 st1 st2) S2 ry q2
  intro pe hl
  unfold mOr at hl
  split at hl
  · obtain ⟨h1, h2⟩ := Bool.and_eq_true_iff.mp hl
    split at h2
    · exact PE.of (pe_orT (ha _ h1) (pe_one (hb _ h2))) key
    · exact PE.of (pe_orT (ha _ h1) (hb _ h2)) key
  · cases hl
theorem snd_not (h : XOk Z px cm cst Φ gv k C X) {a : E} {la : Lk} (ha : OkP Z X la (fun σ m Q => wpE Φ gv cm a σ m Q (px.at σ)) (cE cst a)) : OkP Z X (mNot la) (fun σ m Q => wpE Φ gv cm (.not a) σ m Q (px.at σ)) (cE cst a) := by
  intro pe hl
  unfold mNot at hl
  split at hl
  · refine PE.of (pe_notT (ha _ hl)) ?_
    intro s H QV q
    obtain ⟨W, m, σ, Q, hw, S, L, hn, kq⟩ := q
    refine ⟨W, m, σ, _, hw, S, L, by omega, fun dx m1 vx H1 W1 st1 S1 rx q1 => ?_⟩
    obtain ⟨t, e1, q1⟩ := q1
    exact ⟨t, tru_rd h.K S1 rx e1, kq _ m1 _ H1 W1 st1 S1 (.bl _) q1⟩
  · cases hl
/-! ### tests -/
abbrev WpT := PySem.Env → PySem.Env
abbrev OkT {G : Gs} (Z : Zs G) (X : Cx) (l : Lk) (w : Env → Mu → (Bool → Mu → Prop) → Prop) (c : Nat) : Prop := ∀ pe, l pe = true → PT X pe (tT Z w c)
theorem snd_ife {t a b : E} {lt la lb : Lk} (ht : OkT Z X lt (fun σ m Q => wpT Φ gv cm t σ m Q (px.at σ)) (cE cst t)) (ha : OkP Z X la (fun σ m Q => wpE Φ gv cm a σ m Q (px.at σ)) (cE cst a)) (hb : OkP Z X lb (fun σ m Q => wpE Φ gv cm b σ m Q (px.at σ)) (cE cst b)) :
    OkP Z X (mIfe lt la lb) (fun σ m Q => wpE Φ gv cm (.ife t a b) σ m Q (px.at σ)) (cE cst t + (cE cst a + cE cst b)) := by
  intro pe hl
  unfold mIfe at hl
  split at hl
  · simp only [Bool.and_eq_true] at hl
    obtain ⟨⟨h1, h2⟩, h3⟩ := hl
    refine PE.of (pe_ifExp (ht _ h1) (ha _ h2) (hb _ h3)) ?_
    intro s H QV q
    obtain ⟨W, m, σ, Q, hw, S, L, hn, kq⟩ := q
    refine ⟨W, m, σ, _, hw, S, L, by omega, fun b' m1 H1 W1 st1 S1 q1 => ?_⟩
    have n1 := st1.n
    cases b' with
    | true =>
      rw [if_pos rfl] at q1
      refine iteT ?_
      exact ⟨W1, m1, σ, _, q1, S1, L.mono st1.le, by omega, fun dy m2 vy H2 W2 st2 S2 ry q2 => kq _ m2 _ H2 W2 ((Step.trans S1 st1 st2).weak (by omega)) S2 ry q2⟩
    | false =>
      rw [if_neg Bool.false_ne_true] at q1
      refine iteF ?_
      exact ⟨W1, m1, σ, _, q1, S1, L.mono st1.le, by omega, fun dy m2 vy H2 W2 st2 S2 ry q2 => kq _ m2 _ H2 W2 ((Step.trans S1 st1 st2).weak (by omega)) S2 ry q2⟩
  · cases hl
theorem snt_cmp (h : XOk Z px cm cst Φ gv k C X) (c : C2) {a b : E} {la lb : Lk} (ha : OkP Z X la (fun σ m Q => wpE Φ gv cm a σ m Q (px.at σ)) (cE cst a)) (hb : OkP Z X lb (fun σ m Q => wpE Φ gv cm b σ m Q (px.at σ)) (cE cst b)) :
    OkT Z X (mCmp c la lb) (fun σ m Q => wpT Φ gv cm (.cmp c a b) σ m Q (px.at σ)) (cE cst a + cE cst b) := by
  intro pe hl
  unfold mCmp at hl
  split at hl
  · simp only [Bool.and_eq_true, decide_eq_true_eq] at hl
    obtain ⟨⟨⟨h1, h2⟩, h3⟩, h4⟩ := hl
    subst h1
    refine PT.of (pt_cmpR (cmpOk (Z := Z) h.K h.units c) (ha _ h3) (hb _ h4) (nomark_of h2)) fun s H QV q => ?_
    obtain ⟨W, m, σ, Q, hw, S, L, hn, kq⟩ := q
    refine cmp_imp (w := fun σ m Q => wpT Φ gv cm (.cmp c a b) σ m (fun k m => Q (.bl k) m) (px.at σ)) (fun _ _ _ q => q) ⟨W, m, σ, (fun d m => ∃ k, d = .bl k ∧ Q k m), ?_, S, L, hn, fun d m' v H' W' st S' r ⟨k, e, q⟩ => ?_⟩
    · have mono : ∀ {x y : D} {Q Q' : Bool → Prop}, (∀ k, Q k → Q' k) → cmpR c x y Q → cmpR c x y Q' := fun {x y Q Q'} hq hc => by
        unfold cmpR at hc ⊢
        split at hc <;> first | exact hq _ hc | exact ⟨hc.1, hq _ hc.2⟩ | exact hc.elim
      have e : ∀ k m, Q k m → ∃ k', D.bl k = .bl k' ∧ Q k' m := fun k m q => ⟨k, rfl, q⟩
      simpa using hw
    · subst e
      cases r
      exact ⟨k, rfl, kq k m' H' W' st S' q⟩
  · cases hl
theorem snt_chain (h : XOk Z px cm cst Φ gv k C X) (c d : C2) {a b e : E} {la lb le : Lk} (ha : OkP Z X la (fun σ m Q => wpE Φ gv cm a σ m Q (px.at σ)) (cE cst a)) (hb : OkP Z X lb (fun σ m Q => wpE Φ gv cm b σ m Q (px.at σ)) (cE cst b)) (he : OkP Z X le (fun σ m Q => wpE Φ gv cm e σ m Q (px.at σ)) (cE cst e)) :
    OkT Z X (mChain c d la lb le) (fun σ m Q => wpT Φ gv cm (.chain c d a b e) σ m Q (px.at σ)) (cE cst a + cE cst b + cE cst e) := by
  intro pe hl
  unfold mChain at hl
  split at hl
  · simp only [Bool.and_eq_true, decide_eq_true_eq] at hl
    obtain ⟨⟨⟨⟨⟨⟨h1, h2⟩, h3⟩, h4⟩, h5⟩, h6⟩, h7⟩ := hl
    subst h1 h2
    refine PT.of (pt_chain (cmpOk (Z := Z) h.K h.units c) (cmpOk (Z := Z) h.K h.units d) (ha _ h5) (hb _ h6) (he _ h7) (lastMarks2 h4)) fun s H QV q => ?_
    obtain ⟨W, m, σ, Q, hw, S, L, hn, kq⟩ := q
    refine chain_imp (w := fun σ m Q => wpT Φ gv cm (.chain c d a b e) σ m (fun k m => Q (.bl k) m) (px.at σ)) (fun _ _ _ q => q) ⟨W, m, σ, (fun d m => ∃ k, d = .bl k ∧ Q k m), ?_, S, L, hn, fun d m' v H' W' st S' r ⟨k, e, q⟩ => ?_⟩
    · simpa using hw
    · subst e
      cases r
      exact ⟨k, rfl, kq k m' H' W' st S' q⟩
  · cases hl
theorem snt_not {a : E} {la : Lk} (ha : OkT Z X la (fun σ m Q => wpT Φ gv cm a σ m Q (px.at σ)) (cE cst a)) : OkT Z X (mNot la) (fun σ m Q => wpT Φ gv cm (.not a) σ m Q (px.at σ)) (cE cst a) := by
  intro pe hl
  unfold mNot at hl
  split at hl
  · refine PT.of (pt_not (ha _ hl)) ?_
    intro s H QV q
    obtain ⟨W, m, σ, Q, hw, S, L, hn, kq⟩ := q
    exact ⟨W, m, σ, _, hw, S, L, by omega, fun b m1 H1 W1 st1 S1 q1 => kq _ m1 H1 W1 st1 S1 q1⟩
  · cases hl
end
end Pk

/-! sorted(a list of tuples that begin with a text and a number, no two alike). -/
namespace Pk
open PySem L2 PySem.W PyProof.Rows
/-- what a row's key is made of -/
inductive Ka where
  | i (n : Int) | s (x : Str)
def Ka.data : Ka → PyData
  | .i n => .int n
  | .s x => .str x
def Ka.is : Ka → Value → Prop
  | .i n, v => ∃ t, v = .int n t
  | .s x, v => ∃ t, v = .str x t
def Ka.kind : Ka → Bool
  | .i _ => true
  | .s _ => false
def Ka.v : Ka → V
  | .i n => .int n
  | .s x => .str x
theorem Ka.fn {a b : Ka} {v : Value} (h1 : a.is v) (h2 : b.is v) : a = b := by
  cases a <;> cases b <;> obtain ⟨t, rfl⟩ := h1 <;> obtain ⟨u, e⟩ := h2 <;> cases e <;> rfl
theorem Ka.reads {a : Ka} {v : Value} {h : Heap} (r : a.is v) : Reads h v a.data [] := by
  cases a <;> obtain ⟨t, rfl⟩ := r
  · exact Reads.int _ _
  · exact Reads.str _ _
theorem Ka.alike {a b : Ka} (h : a.kind = b.kind) : PySem.W.alike a.data b.data = true := by
  cases a with
  | i n =>
    cases b with
    | i n' => simp only [Ka.data, PySem.W.alike]
    | s x => cases h
  | s x =>
    cases b with
    | i n' => cases h
    | s y => simp only [Ka.data, PySem.W.alike]
theorem Ka.flat (a : Ka) : a.data ≠ .none ∧ (∀ xs, a.data ≠ .tuple xs) ∧ a.data.depth = 0 := by
  cases a <;> exact ⟨nofun, nofun, by simp only [Ka.data, PyData.depth]⟩
theorem Ka.eqv {a b : Ka} (h : a.kind = b.kind) : PyData.eqv a.data b.data = true → a = b := by
  cases a <;> cases b <;> first | (cases h; done) | (intro e; simp [Ka.data, PyData.eqv] at e; rw [e])
/-- values that are a key, one behind the other -/
inductive KasIs : List Ka → List Value → Prop
  | nil : KasIs [] []
  | cons {a : Ka} {v : Value} {as : List Ka} {vs : List Value} : a.is v → KasIs as vs → KasIs (a :: as) (v :: vs)
theorem KasIs.fn : ∀ {as bs : List Ka} {us vs r r' : List Value}, KasIs as us → KasIs bs vs → as.length = bs.length → us ++ r = vs ++ r' → as = bs ∧ r = r'
  | _, _, _, _, _, _, .nil, .nil, _, e => ⟨rfl, e⟩
  | _, _, _, _, _, _, .nil, .cons _ _, h, _ => by cases h
  | _, _, _, _, _, _, .cons _ _, .nil, h, _ => by cases h
  | _, _, _, _, _, _, .cons h1 t1, .cons h2 t2, h, e => by
    injection e with e1 e2
    obtain ⟨q1, q2⟩ := KasIs.fn t1 t2 (Nat.succ.inj h) e2
    rw [e1] at h1
    exact ⟨by rw [Ka.fn h1 h2, q1], q2⟩
/-- v is a tuple that begins with a key -/
def RowV (h : Heap) (v : Value) (k : List Ka) : Prop := ∃ (a : Addr) (o : Obj) (xs : Array Value) (m : Nat) (us r : List Value), v = .ref a ∧ h.get? a = some o ∧ o.cls = .type "tuple" ∧ o.data = .seq xs m ∧ xs.toList = us ++ r ∧ KasIs k us
theorem RowV.fn {h : Heap} {v : Value} {k k' : List Ka} (a : RowV h v k) (b : RowV h v k') (hl : k.length = k'.length) : k = k' := by
  obtain ⟨x, o, xs, m, us, r, rfl, e1, e2, e3, e4, e5⟩ := a
  obtain ⟨x', o', xs', m', us', r', q, q1, q2, q3, q4, q5⟩ := b
  cases q
  rw [e1] at q1
  cases q1
  rw [e3] at q3
  cases q3
  rw [e4] at q4
  exact (e5.fn q5 hl q4).1
def rk (b : List Ka) : List (Int ⊕ List Nat) := keyToks (.tuple (b.map Ka.data))
structure Rw where
  v : V
  k : List Ka
  d : D
/-- is a row below another one? -/
def rowLt2 (b c : List Ka) : Bool := dataLt (.tuple (b.map Ka.data)) (.tuple (c.map Ka.data))
abbrev RowS (kd : List Bool) (h : Heap) (vs : List Value) (v : Value) (b : List Ka) : Prop := v ∈ vs ∧ RowV h v b ∧ b.map Ka.kind = kd
theorem RowS.fn {kd : List Bool} {h : Heap} {vs : List Value} {v : Value} {b c : List Ka} (x : RowS kd h vs v b) (y : RowS kd h vs v c) : b = c :=
  x.2.1.fn y.2.1 (by rw [← List.length_map (f := Ka.kind), x.2.2, ← y.2.2, List.length_map])
noncomputable def rowKind (kd : List Bool) (h : Heap) (vs : List Value) : KeyKind where
  toKeyOrd := listOrd itemOrd
  keyOf v := open Classical in if q : ∃ b : List Ka, RowS kd h vs v b then some (rk q.choose) else none
  dflt := ([] : List (Int ⊕ List Nat))
theorem rowKind_some {kd : List Bool} {h : Heap} {vs : List Value} {v : Value} {b : List Ka} (r : RowS kd h vs v b) : (rowKind kd h vs).keyOf v = some (rk b) := by
  have q : ∃ b : List Ka, RowS kd h vs v b := ⟨b, r⟩
  have e : (rowKind kd h vs).keyOf v = some (rk q.choose) := by
    show (open Classical in if q : ∃ b : List Ka, RowS kd h vs v b then some (rk q.choose) else none) = _
    rw [dif_pos q]
  rw [e, RowS.fn q.choose_spec r]
theorem rowKind_inv {kd : List Bool} {h : Heap} {vs : List Value} {v : Value} {k : List (Int ⊕ List Nat)} (e : (rowKind kd h vs).keyOf v = some k) : ∃ b : List Ka, RowS kd h vs v b ∧ k = rk b := by
  by_cases q : ∃ b : List Ka, RowS kd h vs v b
  · have e' : (rowKind kd h vs).keyOf v = some (rk q.choose) := by
      show (open Classical in if q : ∃ b : List Ka, RowS kd h vs v b then some (rk q.choose) else none) = _
      rw [dif_pos q]
    rw [e'] at e
    exact ⟨_, q.choose_spec, (Option.some.inj e).symm⟩
  · have e' : (rowKind kd h vs).keyOf v = none := by
      show (open Classical in if q : ∃ b : List Ka, RowS kd h vs v b then some (rk q.choose) else none) = _
      rw [dif_neg q]
      rfl
    rw [e'] at e
    exact absurd e (by simp)
section
variable {prog : Program} {w : World} {A : Around} {s : Shared}
theorem kat_self {b : Bool} {Q : Bool → Shared → Prop} (h : Q false s) : ∀ (r : List Value) (i : Nat), KatLex prog w A b false Q (r.zip r) i s
  | [], i => kat_nil h
  | v :: r, i => by
    rw [List.zip_cons_cons]
    exact kat_cons (SeqAt.EqAt.same v prog w _ _ (kat_yes (kat_self h r (i + 1))))
/-- two rows looked at, part by part -/
theorem kat_rows {f0 fin : Bool} {Q : Bool → Shared → Prop} (hu : A.units + 8 < cLine) : ∀ {ks ls : List Ka} {us vs r r' : List Value} (i : Nat), KasIs ks us → KasIs ls vs → ks.map Ka.kind = ls.map Ka.kind →
    Q (PyProof.Rows.lexLt itemOrd (keyToksAll (ks.map Ka.data)) (keyToksAll (ls.map Ka.data))) s → (ks = ls → Q false s → KatLex prog w A f0 fin Q (r.zip r') (i + ks.length) s) → KatLex prog w A f0 fin Q ((us ++ r).zip (vs ++ r')) i s
  | [], [], _, _, r, r', i, .nil, .nil, _, hq, hk => by
    rw [show PyProof.Rows.lexLt itemOrd (keyToksAll (([] : List Ka).map Ka.data)) (keyToksAll (([] : List Ka).map Ka.data)) = false from lex_irrefl _] at hq
    exact hk rfl hq
  | [], _ :: _, _, _, _, _, _, _, _, hs, _, _ => by cases hs
  | _ :: _, [], _, _, _, _, _, _, _, hs, _, _ => by cases hs
  | k :: ks, l :: ls, _, _, r, r', i, .cons h1 t1, .cons h2 t2, hs, hq, hk => by
    injection hs with hs1 hs2
    have al := Ka.alike hs1
    have hd : A.units + min k.data.depth l.data.depth < cLine := by rw [(Ka.flat k).2.2]; omega
    rw [List.cons_append, List.cons_append, List.zip_cons_cons]
    refine kat_cons (eqAt_alike k.data l.data A s _ _ _ _ (Ka.reads h1) (Ka.reads h2) al hd prog w _ _ ?_)
    rw [List.map_cons, List.map_cons] at hq
    cases hx : PyData.eqv k.data l.data with
    | false =>
      rw [dataLt_all_no al hx] at hq
      exact kat_no (oneLt_alike (fun _ => (Ka.flat k).2.1) (Ka.reads h1) (Ka.reads h2) al (Ka.flat k).1 hd hq)
    | true =>
      rw [dataLt_all_yes al hx] at hq
      have ek := Ka.eqv hs1 hx
      refine kat_yes (kat_rows hu (i + 1) t1 t2 hs2 hq fun e q => ?_)
      have := hk (by rw [ek, e]) q
      rw [List.length_cons] at this
      rw [show i + 1 + ks.length = i + (ks.length + 1) by omega]
      exact this
theorem SortsAt.rows {β : Type} {kd : List Bool} {vs : List Value} {bs : List β} {f : β → List Ka} (hkd : kd ≠ []) (e : EachIs (fun v b => RowV s.heap v (f b) ∧ (f b).map Ka.kind = kd) vs bs) (hn : ∀ v ∈ vs, ∀ v' ∈ vs, ∀ k, k.map Ka.kind = kd → RowV s.heap v k → RowV s.heap v' k → v = v') (hu : A.units + 8 < cLine) : SortsAt prog w A s (rowKind kd s.heap vs) vs := by
  obtain ⟨b0, kd', rfl⟩ : ∃ b0 kd', kd = b0 :: kd' := by
    cases kd with
    | nil => exact absurd rfl hkd
    | cons b r => exact ⟨b, r, rfl⟩
  refine ⟨fun v hv => ?_, tuples' true, ?_, fun h2 E Q hq => ?_⟩
  · obtain ⟨b, hb, r1, r2⟩ := e.left v hv
    exact ⟨_, rowKind_some (b := f b) ⟨hv, r1, r2⟩⟩
  · intro E x y a b Q ha hb hq
    obtain ⟨c, ⟨hx, rx, sx⟩, rfl⟩ := rowKind_inv ha
    obtain ⟨d, ⟨hy, ry, sy⟩, rfl⟩ := rowKind_inv hb
    have hq' : Q (dataLt (.tuple (c.map Ka.data)) (.tuple (d.map Ka.data))) s := hq
    rw [dataLt_tuple] at hq'
    have same := fun k hk => hn x hx y hy k hk
    obtain ⟨ax, ox, xs, mx, us, r, rfl, e1, e2, e3, e4, e5⟩ := id rx
    obtain ⟨ay, oy, ys, my, us', r', rfl, q1, q2, q3, q4, q5⟩ := id ry
    refine kat_lt e1 e3 q1 q3 ?_
    rw [e4, q4]
    refine kat_rows hu 0 e5 q5 (by rw [sx, sy]) hq' fun ecd hq2 => ?_
    subst ecd
    have eq := same c sx rx ry
    cases eq
    rw [e1] at q1
    cases q1
    rw [e3] at q3
    cases q3
    rw [e4] at q4
    have er := (e5.fn q5 rfl q4).2
    subst er
    rw [show decide (xs.size < xs.size) = false from decide_eq_false (Nat.lt_irrefl _)]
    exact kat_self hq2 r _
  · have key : ∀ {us : List Value} {cs : List β}, EachIs (fun v b => RowV s.heap v (f b) ∧ (f b).map Ka.kind = b0 :: kd') us cs → ∃ fs, KatTups s.heap us fs ∧ fs.length = us.length ∧ ∀ g, g ∈ fs → ∃ a : Ka, a.kind = b0 ∧ a.is g := by
      intro us cs e
      induction e with
      | nil => exact ⟨[], KatTups.nil, rfl, fun g hg => absurd hg (by simp)⟩
      | @cons a0 c0 as0 bs0 r _ ih =>
        obtain ⟨fs, h1, h2, h3⟩ := ih
        obtain ⟨⟨a, o, xs, m, vs', rr, rfl, e1, e2, e3, e4, e5⟩, e6⟩ := r
        generalize f c0 = k at e5 e6
        cases e5 with
        | nil => cases e6
        | @cons at_ v as vs' hv _ =>
          injection e6 with e7 e8
          have hf : xs[0]? = some v := by rw [← Array.getElem?_toList, e4]; rfl
          refine ⟨_ :: fs, KatTups.cons e1 e2 e3 hf h1, by rw [List.length_cons, List.length_cons, h2], fun g hg => ?_⟩
          rcases List.mem_cons.mp hg with rfl | hg
          · exact ⟨_, e7, hv⟩
          · exact h3 g hg
    obtain ⟨fs, t1, t2, t3⟩ := key e
    cases b0 with
    | true =>
      refine kat_kind (T := .type "int") t1 (by omega) (fun g hg => ?_) rfl hq
      obtain ⟨a, ha, hg⟩ := t3 g hg
      cases a with
      | i n => obtain ⟨t, rfl⟩ := hg; exact Looks.of_pure rfl
      | s x => cases ha
    | false =>
      refine kat_kind (T := .type "str") t1 (by omega) (fun g hg => ?_) rfl hq
      obtain ⟨a, ha, hg⟩ := t3 g hg
      cases a with
      | i n => cases ha
      | s x => obtain ⟨t, rfl⟩ := hg; exact Looks.of_pure rfl
end
section
variable {X : Cx}
def rSortedR (K : PySem.W.Frag) : List V → Hp → VK → Prop := fun vs H Q => ∃ (a : Addr) (kd : List Bool) (bs : List (Rw)), vs = [V.ref a] ∧ kd ≠ [] ∧ SqL K H a (bs.map (·.v)) ∧ (∀ b ∈ bs, b.k.map Ka.kind = kd ∧ ∃ t r, b.v = .ref t ∧ SqT K H t (b.k.map Ka.v ++ r)) ∧ (bs.map (·.k)).Nodup ∧
  ∀ (cs : List (Rw)) (p : Addr), cs.Perm bs → cs.Pairwise (fun b c => rowLt2 b.k c.k = true) → H p = none → Q (.ref p) (upd H p (.lst (cs.map (·.v))))
theorem ats_vals : ∀ {k : List Ka} {r : List V} {us : List Value}, Vals (k.map Ka.v ++ r) us → ∃ vs rr, us = vs ++ rr ∧ KasIs k vs
  | [], r, us, _ => ⟨[], us, rfl, .nil⟩
  | a :: k, r, us, h => by
    rw [List.map_cons, List.cons_append] at h
    cases h with
    | cons h1 h2 =>
      obtain ⟨vs, rr, rfl, q⟩ := ats_vals h2
      refine ⟨_ :: vs, rr, rfl, .cons ?_ q⟩
      cases a with
      | i n => exact h1
      | s x => exact h1
theorem rk_inj : ∀ {b c : List Ka}, b.map Ka.kind = c.map Ka.kind → keyToksAll (b.map Ka.data) = keyToksAll (c.map Ka.data) → b = c
  | [], [], _, _ => rfl
  | [], _ :: _, h, _ => by cases h
  | _ :: _, [], h, _ => by cases h
  | a :: b, d :: c, h, e => by
    injection h with h1 h2
    rw [List.map_cons, List.map_cons, toks_all_cons, toks_all_cons] at e
    injection e with _ e
    cases a with
    | i n =>
      cases d with
      | i n' =>
        simp only [Ka.data, keyToks, List.singleton_append] at e
        injection e with e1 e2
        injection e1 with e1
        rw [e1, rk_inj h2 e2]
      | s x => cases h1
    | s x =>
      cases d with
      | i n' => cases h1
      | s y =>
        simp only [Ka.data, keyToks, List.singleton_append] at e
        injection e with e1 e2
        injection e1 with e1
        have : x = y := by
          cases x with
          | mk u => cases y with
            | mk v =>
              have : u = v := by simpa using e1
              rw [this]
        rw [this, rk_inj h2 e2]
theorem rw_each {R : Value → Rw → Prop} : ∀ {bs : List (Rw)} {us : List Value}, Vals (bs.map (·.v)) us → (∀ b ∈ bs, ∀ u, RelV b.v u → R u b) → EachIs R us bs
  | [], _, h, _ => by cases h; exact .nil
  | b :: bs, _, h, k => by
    cases h with
    | cons h1 h2 => exact .cons (k b (List.mem_cons_self ..) _ h1) (rw_each h2 fun c hc => k c (List.mem_cons_of_mem _ hc))
theorem rw_vals : ∀ {bs : List (Rw)} {us : List Value}, EachIs (fun v b => RelV b.v v) us bs → Vals (bs.map (·.v)) us
  | _, _, .nil => .nil
  | _, _, .cons h1 h2 => .cons h1 (rw_vals h2)
theorem cr_sortedR (hu : X.A.units + 64 < cLine) : CallR X (.builtin "sorted") (rSortedR X.K) := by
  intro pins s σ H vs us Q I r h
  obtain ⟨a, kd, bs, rfl, hkd, hs, hb, hnd, q⟩ := h
  obtain ⟨its, rv, hl, hz⟩ := I.list hs
  rw [Vals.ref1 r]
  have row : ∀ b ∈ bs, ∀ u, RelV b.v u → RowV s.heap u b.k ∧ b.k.map Ka.kind = kd := fun b hm u ru => by
    obtain ⟨h0, t, r, e, ht⟩ := hb b hm
    rw [e] at ru
    obtain rfl : u = Value.ref t := ru
    obtain ⟨zs, rz, ⟨o, ho, hc, n, hd⟩, _⟩ := I.tuple ht
    obtain ⟨vs, rr, rfl, q⟩ := ats_vals rz
    exact ⟨⟨t, o, _, n, vs, rr, rfl, ho, hc, hd, rfl, q⟩, h0⟩
  have e0 : EachIs (fun v b => RelV b.v v) its bs := rw_each rv fun b hm u ru => ru
  have e1 : EachIs (fun v b => RowV s.heap v b.k ∧ b.k.map Ka.kind = kd) its bs := rw_each rv row
  let s2 : Shared := { s with heap := sortingHeap (copyHeap s.heap its) (s.heap.objs.size + 1) its }
  have e2 : EachIs (fun v b => RowV s2.heap v b.k ∧ b.k.map Ka.kind = kd) its bs := e1.mono fun v b ⟨⟨a, o, xs, m, t, u, h1, h2, h3⟩, h4⟩ => ⟨⟨a, o, xs, m, t, u, h1, sorting_copy_old h2, h3⟩, h4⟩
  have hn : ∀ v ∈ its, ∀ v' ∈ its, ∀ k : List Ka, k.map Ka.kind = kd → RowV s2.heap v k → RowV s2.heap v' k → v = v' := fun v hv v' hv' k hk r1 r2 => by
    have z : ∀ {us : List Value} {cs : List (Rw)}, EachIs (fun v b => RowV s2.heap v b.k ∧ b.k.map Ka.kind = kd) us cs → (cs.map (·.k)).Nodup → ∀ v ∈ us, ∀ v' ∈ us, RowV s2.heap v k → RowV s2.heap v' k → v = v' := by
      intro us cs e
      induction e with
      | nil => intro _ v hv; cases hv
      | @cons a b as cs r0 t ih =>
        intro hnd v hv v' hv' r1 r2
        obtain ⟨n1, n2⟩ := List.nodup_cons.mp (show (b.k :: cs.map (·.k)).Nodup from hnd)
        have ln : ∀ c : Rw, c.k.map Ka.kind = kd → c.k.length = k.length := fun c hc => by rw [← List.length_map (f := Ka.kind), hc, ← hk, List.length_map]
        have inb : ∀ x ∈ as, RowV s2.heap x k → RowV s2.heap a k → False := fun x hx g1 g2 => by
          obtain ⟨c, hc, rc⟩ := t.left x hx
          have c1 := rc.1.fn g1 (ln c rc.2)
          have c3 := r0.1.fn g2 (ln b r0.2)
          refine n1 ?_
          have : b.k = c.k := c3.trans c1.symm
          rw [this]
          exact List.mem_map_of_mem (f := (·.k)) hc
        rcases List.mem_cons.mp hv with g1 | g1
        · rcases List.mem_cons.mp hv' with g2 | g2
          · rw [g1, g2]
          · rw [g1] at r1
            exact (inb _ g2 r2 r1).elim
        · rcases List.mem_cons.mp hv' with g2 | g2
          · rw [g2] at r2
            exact (inb _ g1 r1 r2).elim
          · exact ih n2 v g1 v' g2 r1 r2
    exact z e2 hnd v hv v' hv' r1 r2
  have S : SortsAt X.prog X.w X.A.in1.in1 s2 (rowKind kd s2.heap its) its := SortsAt.rows (f := fun b : Rw => b.k) hkd e2 hn (by show X.A.units + 1 + 1 + 8 < cLine; omega)
  have hlen : its.length ≤ sizeLine := by rw [← rv.length]; exact hz
  refine sorted_vals hl.isList S hlen ?_
  have out := sortVals_each (κ := rowKind kd s2.heap its) (rev := false) (ks := its) (vs := its) (bs := bs) (fun b => rk b.k) e0 (by
    have : ∀ {us : List Value} {cs : List (Rw)}, EachIs (fun v b => RowV s2.heap v b.k ∧ b.k.map Ka.kind = kd) us cs → (∀ u ∈ us, u ∈ its) → EachIs (fun v b => (rowKind kd s2.heap its).keyOf v = some (rk b.k)) us cs := by
      intro us cs e
      induction e with
      | nil => intro _; exact .nil
      | cons r _ ih => intro hu; exact .cons (rowKind_some ⟨hu _ (List.mem_cons_self ..), r.1, r.2⟩) (ih fun u h => hu u (List.mem_cons_of_mem _ h))
    exact this e2 fun u h => h)
  generalize hcs : bs.mergeSort (sortLe (rowKind kd s2.heap its).toKeyOrd false fun b => rk b.k) = cs at out
  have hp : cs.Perm bs := by rw [← hcs]; exact List.mergeSort_perm ..
  have hpw : cs.Pairwise (fun b c => rowLt2 b.k c.k = true) := by
    have h1 : cs.Pairwise (fun b c => sortLe (rowKind kd s2.heap its).toKeyOrd false (fun b : Rw => rk b.k) b c = true) := by
      rw [← hcs]
      exact List.pairwise_mergeSort (sortLe_total (rowKind kd s2.heap its).toKeyOrd false (fun b : Rw => rk b.k)).trans (fun a b => Bool.or_eq_true_iff.mpr ((sortLe_total (rowKind kd s2.heap its).toKeyOrd false (fun b : Rw => rk b.k)).total a b)) bs
    have nd2 : (cs.map (fun x => x.k)).Nodup := (hp.map (fun x : Rw => x.k)).nodup_iff.mpr hnd
    have h2 : cs.Pairwise (fun b c => b.k ≠ c.k) := List.pairwise_map.mp nd2
    refine (h1.and h2).imp_of_mem ?_
    rintro b c hb' hc' ⟨g1, g2⟩
    have g1 : (!rowLt2 c.k b.k) = true := g1
    cases g3 : rowLt2 b.k c.k with
    | true => rfl
    | false =>
      have g4 : rowLt2 c.k b.k = false := by simpa using g1
      have g5 : rk b.k = rk c.k := (listOrd itemOrd).total _ _ g3 g4
      unfold rk at g5
      simp only [keyToks] at g5
      exact absurd (rk_inj (by rw [(hb b (hp.mem_iff.mp hb')).1, (hb c (hp.mem_iff.mp hc')).1]) g5) g2
  obtain ⟨ep, he'⟩ := PyProof.Rows.sortedAll_at s.heap its (sortVals (rowKind kd s2.heap its) false its its).toArray
  have hlen2 : (cs.map (·.v)).length ≤ sizeLine := by rw [List.length_map, hp.length_eq, ← List.length_map (f := (·.v))]; exact hz
  exact ⟨.ref _, upd H (s.heap.objs.size + 1) (.lst (cs.map (·.v))), I.laid (t' := s.toks) (fun _ _ => PyProof.Rows.sortedAll_old) (Nat.le_succ _) ⟨hlen2, (sortVals (rowKind kd s2.heap its) false its its), ep, rw_vals out, he'⟩, rfl, q cs _ hp hpw (I.hok.fresh (Nat.le_succ _))⟩
end
end Pk

/-! Built-in functions and methods, by values. -/
namespace Pk
open PySem L2
/-! ### max, min of two texts -/
section
variable {prog : Program} {w : World} {A : Around} {E : Value → Shared → Prop} {s : Shared}
def strItems (xs : Array (Str × Tok)) : Array Value := xs.map fun p => .str p.1 p.2
def strAt (xs : Array (Str × Tok)) (i : Nat) : Str := (xs[i]?.map (·.1)).getD Str.empty
theorem strItems_at {xs : Array (Str × Tok)} {i : Nat} {v : Value} (h : (strItems xs)[i]? = some v) : ∃ t, v = .str (strAt xs i) t := by
  unfold strItems at h
  rw [Array.getElem?_map] at h
  unfold strAt
  cases e : xs[i]? with
  | none => rw [e] at h; cases h
  | some p =>
    rw [e] at h
    cases h
    exact ⟨p.2, rfl⟩
theorem strs_gt {A : Around} {P : Nat → Value → Prop} (val : Nat → Str) (hval : ∀ i v, P i v → ∃ t, v = .str (val i) t) (hu : A.units < cLine) :
    CmpOf prog w A .Gt P (fun i j => decide ((val j).cps.toList < (val i).cps.toList)) := fun i j vi vj s Q E hi hj h => by
  obtain ⟨t, rfl⟩ := hval i vi hi
  obtain ⟨u, rfl⟩ := hval j vj hj
  refine W.rcGt_alike (.str (val i)) (.str (val j)) A s _ _ _ _ (Reads.str _ _) (Reads.str _ _) (by simp only [W.alike]) (fun z => nomatch z) (by simpa [PyData.depth] using hu) prog w E Q ?_
  rw [W.dataLt_str]
  exact h
theorem strs_lt {A : Around} {P : Nat → Value → Prop} (val : Nat → Str) (hval : ∀ i v, P i v → ∃ t, v = .str (val i) t) (hu : A.units < cLine) :
    CmpOf prog w A .Lt P (fun i j => decide ((val i).cps.toList < (val j).cps.toList)) := fun i j vi vj s Q E hi hj h => by
  obtain ⟨t, rfl⟩ := hval i vi hi
  obtain ⟨u, rfl⟩ := hval j vj hj
  refine W.rcLt_alike (.str (val i)) (.str (val j)) A s _ _ _ _ (Reads.str _ _) (Reads.str _ _) (by simp only [W.alike]) (fun z => nomatch z) (by simpa [PyData.depth] using hu) prog w E Q ?_
  rw [W.dataLt_str]
  exact h
theorem max_two_strs {a b : Str} {t u : Tok} {Q : Value → Shared → Prop} (hh : A.handled = none) (hu : A.units + 1 < cLine)
    (h : ∀ h' tk, (∀ c o, s.heap.get? c = some o → h'.get? c = some o) → Q (if a.cps.toList < b.cps.toList then .str b u else .str a t) { s with heap := h', toks := tk }) :
    wpAny (model prog w) A (call (.builtin "max") [.str a t, .str b u]) Q E s := by
  have hT : (s.heap.push { cls := .type "tuple", data := .seq #[.str a t, .str b u] }).IsTuple s.heap.objs.size (strItems #[(a, t), (b, u)]) := ⟨_, Heap.get?_push_size _ rfl, rfl, 0, by simp [strItems]⟩
  refine call_max_two (wpAny_pyIter_tuple hT ?_)
  have hsz : (s.heap.push { cls := .type "tuple", data := .seq #[.str a t, .str b u] }).objs.size = s.heap.objs.size + 1 := Heap.size_push ..
  refine ⟨_, [_, s.heap.objs.size], [_], _, _, _, _, rfl, Walks.tuple (A := A.in1) hh _ s.heap.objs.size (by rw [hsz]; exact Nat.ne_of_lt (Nat.lt_succ_self _)) (strItems #[(a, t), (b, u)]),
    ⟨⟨_, Heap.get?_push_size _ rfl, rfl, rfl⟩, hT.push _⟩, fun c hc => ?_, by simp [strItems], strs_gt (A := A.in1) (strAt #[(a, t), (b, u)]) (fun _ _ => strItems_at) hu, fun v h' tk hP hk => ?_⟩
  · show c < ((s.heap.push _).push _).objs.size
    rw [Heap.size_push, hsz]
    rcases List.mem_cons.mp hc with rfl | hc
    · rw [hsz]; exact Nat.lt_succ_self _
    · rcases List.mem_cons.mp hc with rfl | hc
      · exact Nat.lt_succ_of_lt (Nat.lt_succ_self _)
      · cases hc
  · have hold : ∀ c o, s.heap.get? c = some o → h'.get? c = some o := fun c o e => by
      refine hk c o (fun hm => ?_) (Heap.get?_push_of_some _ (Heap.get?_push_of_some _ e))
      rcases List.mem_cons.mp hm with e1 | hm
      · have := Heap.lt_size e; rw [e1, hsz] at this; exact Nat.lt_irrefl _ (Nat.lt_of_succ_lt this)
      · cases hm
    have := h h' tk hold
    have hv : v = if a.cps.toList < b.cps.toList then Value.str b u else Value.str a t := by
      have hP' : (strItems #[(a, t), (b, u)])[argBest (fun i j => decide ((strAt #[(a, t), (b, u)] j).cps.toList < (strAt #[(a, t), (b, u)] i).cps.toList)) 1]? = some v := by
        have hsz2 : (strItems #[(a, t), (b, u)]).size - 1 = 1 := by simp [strItems]
        rw [← hsz2]; exact hP
      by_cases hba : a.cps.toList < b.cps.toList
      · have e : argBest (fun i j => decide ((strAt #[(a, t), (b, u)] j).cps.toList < (strAt #[(a, t), (b, u)] i).cps.toList)) 1 = 1 := by simp [argBest, strAt, hba]
        rw [e] at hP'
        simpa [strItems, hba] using hP'.symm
      · have e : argBest (fun i j => decide ((strAt #[(a, t), (b, u)] j).cps.toList < (strAt #[(a, t), (b, u)] i).cps.toList)) 1 = 0 := by simp [argBest, strAt, hba]
        rw [e] at hP'
        simpa [strItems, hba] using hP'.symm
    rw [hv]; exact this
theorem min_two_strs {a b : Str} {t u : Tok} {Q : Value → Shared → Prop} (hh : A.handled = none) (hu : A.units + 1 < cLine)
    (h : ∀ h' tk, (∀ c o, s.heap.get? c = some o → h'.get? c = some o) → Q (if b.cps.toList < a.cps.toList then .str b u else .str a t) { s with heap := h', toks := tk }) :
    wpAny (model prog w) A (call (.builtin "min") [.str a t, .str b u]) Q E s := by
  have hT : (s.heap.push { cls := .type "tuple", data := .seq #[.str a t, .str b u] }).IsTuple s.heap.objs.size (strItems #[(a, t), (b, u)]) := ⟨_, Heap.get?_push_size _ rfl, rfl, 0, by simp [strItems]⟩
  refine call_min_two (wpAny_pyIter_tuple hT ?_)
  have hsz : (s.heap.push { cls := .type "tuple", data := .seq #[.str a t, .str b u] }).objs.size = s.heap.objs.size + 1 := Heap.size_push ..
  refine ⟨_, [_, s.heap.objs.size], [_], _, _, _, _, rfl, Walks.tuple (A := A.in1) hh _ s.heap.objs.size (by rw [hsz]; exact Nat.ne_of_lt (Nat.lt_succ_self _)) (strItems #[(a, t), (b, u)]),
    ⟨⟨_, Heap.get?_push_size _ rfl, rfl, rfl⟩, hT.push _⟩, fun c hc => ?_, by simp [strItems], strs_lt (A := A.in1) (strAt #[(a, t), (b, u)]) (fun _ _ => strItems_at) hu, fun v h' tk hP hk => ?_⟩
  · show c < ((s.heap.push _).push _).objs.size
    rw [Heap.size_push, hsz]
    rcases List.mem_cons.mp hc with rfl | hc
    · rw [hsz]; exact Nat.lt_succ_self _
    · rcases List.mem_cons.mp hc with rfl | hc
      · exact Nat.lt_succ_of_lt (Nat.lt_succ_self _)
      · cases hc
  · have hold : ∀ c o, s.heap.get? c = some o → h'.get? c = some o := fun c o e => by
      refine hk c o (fun hm => ?_) (Heap.get?_push_of_some _ (Heap.get?_push_of_some _ e))
      rcases List.mem_cons.mp hm with e1 | hm
      · have := Heap.lt_size e; rw [e1, hsz] at this; exact Nat.lt_irrefl _ (Nat.lt_of_succ_lt this)
      · cases hm
    have := h h' tk hold
    have hv : v = if b.cps.toList < a.cps.toList then Value.str b u else Value.str a t := by
      have hP' : (strItems #[(a, t), (b, u)])[argBest (fun i j => decide ((strAt #[(a, t), (b, u)] i).cps.toList < (strAt #[(a, t), (b, u)] j).cps.toList)) 1]? = some v := by
        have hsz2 : (strItems #[(a, t), (b, u)]).size - 1 = 1 := by simp [strItems]
        rw [← hsz2]; exact hP
      by_cases hba : b.cps.toList < a.cps.toList
      · have e : argBest (fun i j => decide ((strAt #[(a, t), (b, u)] i).cps.toList < (strAt #[(a, t), (b, u)] j).cps.toList)) 1 = 1 := by simp [argBest, strAt, hba]
        rw [e] at hP'
        simpa [strItems, hba] using hP'.symm
      · have e : argBest (fun i j => decide ((strAt #[(a, t), (b, u)] i).cps.toList < (strAt #[(a, t), (b, u)] j).cps.toList)) 1 = 0 := by simp [argBest, strAt, hba]
        rw [e] at hP'
        simpa [strItems, hba] using hP'.symm
    rw [hv]; exact this
end
section
variable {G : Gs} {Z : Zs G} {X : Cx} {W : Kn} {m : Mu} {H : Hp}
def mkS (s : List Nat) : Str := ⟨s.toArray⟩
theorem ints_rep : ∀ {vs : List V} {ds : List D} {is : List Int}, RepL G W vs ds → intsD ds = some is → vs = is.map V.int
  | _, [], _, h, e => by cases h; cases e; rfl
  | _, d :: ds, is, h, e => by
    cases h with
    | cons h1 h2 =>
      cases d <;> first
        | (cases e; done)
        | skip
      rename_i i
      have e' : (match intsD ds with
        | some is => some (i :: is)
        | none => none) = some is := e
      cases q : intsD ds with
      | none => rw [q] at e'; cases e'
      | some js =>
        rw [q] at e'
        cases e'
        cases h1
        rw [ints_rep h2 q]
        rfl
theorem bls_rep : ∀ {vs : List V} {ds : List D} {is : List Bool}, RepL G W vs ds → blsD ds = some is → vs = is.map V.bl
  | _, [], _, h, e => by cases h; cases e; rfl
  | _, d :: ds, is, h, e => by
    cases h with
    | cons h1 h2 =>
      cases d <;> first
        | (cases e; done)
        | skip
      rename_i i
      have e' : (match blsD ds with
        | some is => some (i :: is)
        | none => none) = some is := e
      cases q : blsD ds with
      | none => rw [q] at e'; cases e'
      | some js =>
        rw [q] at e'
        cases e'
        cases h1
        rw [bls_rep h2 q]
        rfl
theorem strs_rep : ∀ {vs : List V} {ds : List D} {is : List (List Nat)}, RepL G W vs ds → strsD ds = some is → vs = (is.map mkS).map V.str
  | _, [], _, h, e => by cases h; cases e; rfl
  | _, d :: ds, is, h, e => by
    cases h with
    | cons h1 h2 =>
      cases d <;> first
        | (cases e; done)
        | skip
      rename_i i
      have e' : (match strsD ds with
        | some is => some (i :: is)
        | none => none) = some is := e
      cases q : strsD ds with
      | none => rw [q] at e'; cases e'
      | some js =>
        rw [q] at e'
        cases e'
        cases h1
        rw [strs_rep h2 q]
        rfl
def biV : Bi → Value
  | .len => .builtin "len" | .abs => .builtin "abs" | .min => .builtin "min" | .max => .builtin "max" | .sum => .builtin "sum" | .all => .builtin "all" | .any => .builtin "any"
  | .sorted => .builtin "sorted" | .list => .type "list" | .tuple => .type "tuple" | .str => .type "str" | .int => .type "int" | .ord => .builtin "ord"
def rB {G : Gs} (Z : Zs G) (f : Bi) : List V → Hp → VK → Prop := fun vs H QV => ∃ (W : Kn) (m : Mu) (ds : List D) (Q : D → Prop), biR f m ds Q ∧ SRel Z W m H ∧ RepL G W vs ds ∧
  ∀ d v H' W', Step W m H W' m H' 0 → SRel Z W' m H' → Rep G W' v d → Q d → QV v H'
theorem int_text (i : Int) : mkS (intS i) = Str.ofString (toString i) := by
  unfold intS mkS
  rw [Array.toArray_toList]
theorem int_rep (i : Int) : Rep G W (.str (Str.ofString (toString i))) (.str (intS i)) := by
  have q : Rep G W (.str (mkS (intS i))) (.str (intS i)) := .str _
  rw [int_text] at q
  exact q
theorem repL1 {vs : List V} {d : D} (h : RepL G W vs [d]) : ∃ v, vs = [v] ∧ Rep G W v d := by
  cases h with
  | cons h1 h2 => cases h2; exact ⟨_, rfl, h1⟩
theorem repL2 {vs : List V} {d e : D} (h : RepL G W vs [d, e]) : ∃ v w, vs = [v, w] ∧ Rep G W v d ∧ Rep G W w e := by
  cases h with
  | cons h1 h2 =>
    cases h2 with
    | cons h2 h3 => cases h3; exact ⟨_, _, rfl, h1, h2⟩
theorem maxS_eq : ∀ (x : List Nat) (xs : List (List Nat)), PySem.W.maxOf (mkS x) (xs.map mkS) = mkS (maxS x xs)
  | x, [] => rfl
  | x, y :: ys => by
    show PySem.W.maxOf (if PySem.W.DatumOrd.lt (mkS x) (mkS y) = true then mkS y else mkS x) (ys.map mkS) = mkS (maxS (if sltB x y then y else x) ys)
    have e : PySem.W.DatumOrd.lt (mkS x) (mkS y) = sltB x y := by
      rw [sltB_eq]
      rfl
    rw [e]
    by_cases h : sltB x y = true
    · rw [if_pos h, if_pos h]
      exact maxS_eq y ys
    · rw [if_neg h, if_neg h]
      exact maxS_eq x ys
theorem minS_eq : ∀ (x : List Nat) (xs : List (List Nat)), PySem.W.minOf (mkS x) (xs.map mkS) = mkS (minS x xs)
  | x, [] => rfl
  | x, y :: ys => by
    show PySem.W.minOf (if PySem.W.DatumOrd.lt (mkS y) (mkS x) = true then mkS y else mkS x) (ys.map mkS) = mkS (minS (if sltB y x then y else x) ys)
    have e : PySem.W.DatumOrd.lt (mkS y) (mkS x) = sltB y x := by
      rw [sltB_eq]
      rfl
    rw [e]
    by_cases h : sltB y x = true
    · rw [if_pos h, if_pos h]
      exact minS_eq y ys
    · rw [if_neg h, if_neg h]
      exact minS_eq x ys
theorem holdAll_strs {h : Heap} : ∀ {xs : List Str} {us : List Value}, Vals (xs.map V.str) us → PySem.W.HoldAll h us xs
  | [], _, r => by cases r; exact ⟨_, .nil⟩
  | x :: xs, _, r => by
    cases r with
    | cons r1 r2 =>
      obtain ⟨t, rfl⟩ := r1
      obtain ⟨as, q⟩ := holdAll_strs (h := h) r2
      exact ⟨_, .cons (.str x t) q⟩
theorem rd_dct {x : V} {d : D} {ks : List (Ky × D)} (S : SRel Z W m H) (r : Rep G W x d) (e : rd m d = .dct ks) : False := by
  cases d with
  | ref a =>
    unfold rd at e
    cases q : m a with
    | none => simp [q] at e
    | some o =>
      have := S.bx a o q
      cases o with
      | lst _ => simp [q] at e
      | dct _ => exact this.elim
      | ins _ _ => exact this.elim
  | dct _ => cases r
  | _ => cases e
def Ky.at : Ky → Ka
  | .i n => .i n
  | .s x => .s (mkS x)
theorem mkS_inj {a b : List Nat} (h : mkS a = mkS b) : a = b := by
  unfold mkS at h
  injection h with h
  simpa using h
theorem Ky.at_inj {a b : Ky} (h : a.at = b.at) : a = b := by
  cases a with
  | i n =>
    cases b with
    | i n' => injection h with h; rw [h]
    | s x => cases h
  | s x =>
    cases b with
    | i n' => cases h
    | s y => injection h with h; rw [mkS_inj h]
def Sh.kd : Sh → List Bool
  | .si => [false, true]
  | .i => [true]
  | .is => [true, false]
theorem rep_row {sh : Sh} {v : V} {d : D} {k : List Ky} (r : Rep G W v d) (e : rowD sh d = some k) : (k.map Ky.at).map Ka.kind = sh.kd ∧ ∃ t ys, v = .ref t ∧ SqT G.K W.F t ((k.map Ky.at).map Ka.v ++ ys) := by
  unfold rowD at e
  split at e
  · cases e
    cases r with
    | tup h1 h2 =>
      cases h2 with
      | cons r1 h2 =>
        cases h2 with
        | cons r2 h2 =>
          cases r1
          cases r2
          exact ⟨rfl, _, _, rfl, h1⟩
  · cases e
    cases r with
    | tup h1 h2 =>
      cases h2 with
      | cons r1 h2 =>
        cases r1
        exact ⟨rfl, _, _, rfl, h1⟩
  · cases e
    cases r with
    | tup h1 h2 =>
      cases h2 with
      | cons r1 h2 =>
        cases h2 with
        | cons r2 h2 =>
          cases r1
          cases r2
          exact ⟨rfl, _, _, rfl, h1⟩
  · cases e
theorem rows_bs {sh : Sh} : ∀ {xs : List V} {ds : List D} {ks : List (List Ky)}, RepL G W xs ds → rowsD sh ds = some ks → ∃ bs : List Rw, bs.map (·.v) = xs ∧ bs.map (·.d) = ds ∧ bs.map (·.k) = ks.map (fun k => k.map Ky.at) ∧ ∀ b ∈ bs, Rep G W b.v b.d ∧ ∃ k, rowD sh b.d = some k ∧ b.k = k.map Ky.at
  | _, [], ks, h, e => by
    cases h
    cases e
    exact ⟨[], rfl, rfl, rfl, fun _ z => by cases z⟩
  | _, d :: ds, ks, h, e => by
    cases h with
    | @cons v vs _ _ h1 h2 =>
      unfold rowsD at e
      split at e
      · rename_i k ks' e1 e2
        cases e
        obtain ⟨bs, b1, b2, b3, b4⟩ := rows_bs h2 e2
        refine ⟨⟨v, k.map Ky.at, d⟩ :: bs, by rw [List.map_cons, b1], by rw [List.map_cons, b2], by rw [List.map_cons, b3, List.map_cons], fun b hb => ?_⟩
        rcases List.mem_cons.mp hb with rfl | hb
        · exact ⟨h1, k, e1, rfl⟩
        · exact b4 b hb
      · cases e
theorem kys_inj : ∀ {a b : List Ky}, a.map Ky.at = b.map Ky.at → a = b
  | [], [], _ => rfl
  | [], _ :: _, h => by cases h
  | _ :: _, [], h => by cases h
  | x :: a, y :: b, h => by
    injection h with h1 h2
    rw [Ky.at_inj h1, kys_inj h2]
theorem ky_lt : ∀ {a b : List Ky}, (a.map Ky.at).map Ka.kind = (b.map Ky.at).map Ka.kind → rowLt2 (a.map Ky.at) (b.map Ky.at) = true → kyLt a b = true
  | [], [], _, h => by
    unfold rowLt2 at h
    rw [PySem.W.dataLt_tuple] at h
    rw [show PyProof.Rows.lexLt PyProof.Rows.itemOrd (PySem.W.keyToksAll ((([] : List Ky).map Ky.at).map Ka.data)) (PySem.W.keyToksAll ((([] : List Ky).map Ky.at).map Ka.data)) = false from PyProof.Rows.lex_irrefl _] at h
    cases h
  | [], _ :: _, h, _ => by cases h
  | _ :: _, [], h, _ => by cases h
  | x :: a, y :: b, hk, h => by
    injection hk with h1 h2
    unfold rowLt2 at h
    rw [PySem.W.dataLt_tuple] at h
    simp only [List.map_cons] at h
    have al : PySem.W.alike x.at.data y.at.data = true := Ka.alike h1
    have ih := fun q => ky_lt (a := a) (b := b) h2 q
    unfold rowLt2 at ih
    rw [PySem.W.dataLt_tuple] at ih
    cases e : PyData.eqv x.at.data y.at.data with
    | false =>
      rw [PySem.W.dataLt_all_no al e] at h
      cases x with
      | i n =>
        cases y with
        | i n' =>
          have h' : PySem.W.dataLt (.int n) (.int n') = true := h
          rw [PySem.W.dataLt_int] at h'
          show (decide (n < n') || _) = true
          rw [h']
          rfl
        | s z => cases h1
      | s u =>
        cases y with
        | i n' => cases h1
        | s u' =>
          have h' : PySem.W.dataLt (.str (mkS u)) (.str (mkS u')) = true := h
          rw [PySem.W.dataLt_str] at h'
          show (sltB u u' || _) = true
          rw [sltB_eq]
          have : decide (u < u') = true := h'
          rw [this]
          rfl
    | true =>
      rw [PySem.W.dataLt_all_yes al e] at h
      have exy : x = y := Ky.at_inj (Ka.eqv h1 e)
      subst exy
      have := ih h
      cases x with
      | i n =>
        show (_ || (decide (n = n) && kyLt a b)) = true
        rw [this, decide_eq_true rfl]
        simp
      | s u =>
        show (_ || (decide (u = u) && kyLt a b)) = true
        rw [this, decide_eq_true rfl]
        simp
theorem repL_rw {bs : List Rw} (h : ∀ b ∈ bs, Rep G W b.v b.d) : RepL G W (bs.map (·.v)) (bs.map (·.d)) := by
  induction bs with
  | nil => exact .nil
  | cons b bs ih => exact .cons (h b (List.mem_cons_self ..)) (ih fun c hc => h c (List.mem_cons_of_mem _ hc))
theorem biOk (hK : X.K = G.K) (hu : X.A.units + 64 < cLine) (f : Bi) (hc : biCalm f = true → X.calm = true) : CallR X (biV f) (rB Z f) := by
  intro pins s σ H vs us Q I r h
  obtain ⟨W, m, ds, Qd, hr, S, rl, k⟩ := h
  have kk : ∀ d v, Rep G W v d → Qd d → Q v H := fun d v r q => k d v H W (Step.refl ..) S r q
  unfold biR at hr
  split at hr
  · obtain ⟨v, rfl, r1⟩ := repL1 rl
    cases r1
    rename_i t
    refine call_len_str pins s σ H _ us Q I r ⟨_, rfl, ?_, ?_⟩
    · show t.toArray.size ≤ sizeLine
      rw [← line_eq]
      simpa using hr.1
    · have e : ((⟨t.toArray⟩ : Str).length : Int) = (t.length : Int) := by show ((t.toArray.size : Nat) : Int) = _; simp
      rw [e]
      exact kk _ _ (.int _) hr.2
  · obtain ⟨v, rfl, r1⟩ := repL1 rl
    split at hr
    · rename_i e
      obtain ⟨a, xs, rfl, h1, q1⟩ := rd_lst S r1 e
      refine call_len_seq pins s σ H _ us Q I r ⟨a, xs, rfl, .inl (.of h1), ?_⟩
      rw [q1.length]
      exact kk _ _ (.int _) hr
    · rename_i e
      obtain ⟨a, xs, rfl, h1, q1⟩ := rd_tup S r1 e
      refine call_len_seq pins s σ H _ us Q I r ⟨a, xs, rfl, .inr (by rw [hK]; exact h1), ?_⟩
      rw [q1.length]
      exact kk _ _ (.int _) hr
    · rename_i e
      exact (rd_dct S r1 e).elim
    · exact hr.elim
  · obtain ⟨v, rfl, r1⟩ := repL1 rl
    cases r1
    exact call_abs pins s σ H _ us Q I r ⟨_, rfl, kk _ _ (.int _) hr⟩
  · obtain ⟨v, w, rfl, r1, r2⟩ := repL2 rl
    cases r1
    cases r2
    exact call_max2 (hc rfl) pins s σ H _ us Q I r ⟨_, _, rfl, kk _ _ (.int _) hr⟩
  · obtain ⟨v, w, rfl, r1, r2⟩ := repL2 rl
    cases r1
    cases r2
    exact call_min2 (hc rfl) pins s σ H _ us Q I r ⟨_, _, rfl, kk _ _ (.int _) hr⟩
  · obtain ⟨v, w, rfl, r1, r2⟩ := repL2 rl
    cases r1
    cases r2
    rename_i a b
    obtain ⟨u, w', rfl, ⟨t, rfl⟩, ⟨t', rfl⟩⟩ := vals2 r
    refine max_two_strs (I.ok.hd (hc rfl)) (by omega) fun h' tk kp => ?_
    show EP X pins σ Q (if a < b then _ else _) _
    have e := sltB_eq a b
    by_cases hj : a < b
    · rw [if_pos hj]
      rw [e, decide_eq_true hj] at hr
      exact ⟨V.str _, H, I.kept kp, ⟨_, rfl⟩, kk _ _ (.str _) hr⟩
    · rw [if_neg hj]
      rw [e, decide_eq_false hj] at hr
      exact ⟨V.str _, H, I.kept kp, ⟨_, rfl⟩, kk _ _ (.str _) hr⟩
  · obtain ⟨v, w, rfl, r1, r2⟩ := repL2 rl
    cases r1
    cases r2
    rename_i a b
    obtain ⟨u, w', rfl, ⟨t, rfl⟩, ⟨t', rfl⟩⟩ := vals2 r
    refine min_two_strs (I.ok.hd (hc rfl)) (by omega) fun h' tk kp => ?_
    show EP X pins σ Q (if b < a then _ else _) _
    have e := sltB_eq b a
    by_cases hj : b < a
    · rw [if_pos hj]
      rw [e, decide_eq_true hj] at hr
      exact ⟨V.str _, H, I.kept kp, ⟨_, rfl⟩, kk _ _ (.str _) hr⟩
    · rw [if_neg hj]
      rw [e, decide_eq_false hj] at hr
      exact ⟨V.str _, H, I.kept kp, ⟨_, rfl⟩, kk _ _ (.str _) hr⟩
  · obtain ⟨v, rfl, r1⟩ := repL1 rl
    split at hr
    · rename_i e
      obtain ⟨a, xs, rfl, h1, q1⟩ := rd_lst S r1 e
      obtain ⟨is, e2, q⟩ := hr
      have e3 := ints_rep q1 e2
      subst e3
      exact cr_sum (hc rfl) pins s σ H _ us Q I r ⟨a, is, rfl, .of h1, kk _ _ (.int _) q⟩
    · exact hr.elim
  · obtain ⟨v, rfl, r1⟩ := repL1 rl
    split at hr
    · rename_i e
      obtain ⟨a, xs, rfl, h1, q1⟩ := rd_lst S r1 e
      obtain ⟨is, e2, q⟩ := hr
      have e3 := bls_rep q1 e2
      subst e3
      exact cr_all (hc rfl) pins s σ H _ us Q I r ⟨a, is, rfl, .of h1, kk _ _ (.bl _) q⟩
    · exact hr.elim
  · obtain ⟨v, rfl, r1⟩ := repL1 rl
    split at hr
    · rename_i e
      obtain ⟨a, xs, rfl, h1, q1⟩ := rd_lst S r1 e
      obtain ⟨is, e2, q⟩ := hr
      have e3 := bls_rep q1 e2
      subst e3
      exact cr_any (hc rfl) pins s σ H _ us Q I r ⟨a, is, rfl, .of h1, kk _ _ (.bl _) q⟩
    · exact hr.elim
  · obtain ⟨v, rfl, r1⟩ := repL1 rl
    split at hr
    · rename_i e
      obtain ⟨a, xs, rfl, h1, q1⟩ := rd_lst S r1 e
      refine call_list_of pins s σ H _ us Q I r ⟨a, xs, rfl, .inl (.of h1), fun l hl => ?_⟩
      have S' := S.new (o := .lst xs) hl (S.bd a xs (.inl h1))
      exact k _ _ _ _ (Step.new S hl) S' (.lst (xs := xs) upd_same (RepL.mono (le_new (S.none hl).1) _ q1)) hr
    · rename_i e
      obtain ⟨a, xs, rfl, h1, q1⟩ := rd_tup S r1 e
      have hb : xs.length ≤ sizeLine := by
        have h1' : SqT X.K H a xs := by rw [hK]; exact h1
        obtain ⟨_, _, _, z⟩ := I.tuple h1'
        exact z
      refine call_list_of pins s σ H _ us Q I r ⟨a, xs, rfl, .inr (by rw [hK]; exact h1), fun l hl => ?_⟩
      have S' := S.new (o := .lst xs) hl hb
      exact k _ _ _ _ (Step.new S hl) S' (.lst (xs := xs) upd_same (RepL.mono (le_new (S.none hl).1) _ q1)) hr
    · exact hr.elim
  · obtain ⟨v, rfl, r1⟩ := repL1 rl
    split at hr
    · rename_i e
      obtain ⟨a, xs, rfl, h1, q1⟩ := rd_lst S r1 e
      refine call_tuple_of pins s σ H _ us Q I r ⟨a, xs, rfl, .inl ⟨.of h1, fun l hl => ?_⟩⟩
      have S' := S.new (o := .tup xs) hl (S.bd a xs (.inl h1))
      exact k _ _ _ _ (Step.new S hl) S' (.tup (xs := xs) (.inl (.inl upd_same)) (RepL.mono (le_new (S.none hl).1) _ q1)) hr
    · rename_i d _ es e
      have hd : d = .tup es := by
        cases d with
        | tup z => cases e; rfl
        | ref a =>
          unfold rd at e
          cases q : m a with
          | none => simp [q] at e
          | some o => cases o <;> simp [q] at e
        | _ => cases e
      subst hd
      obtain ⟨a, xs, rfl, h1, q1⟩ := rd_tup S r1 e
      exact call_tuple_of pins s σ H _ us Q I r ⟨a, xs, rfl, .inr ⟨by rw [hK]; exact h1, kk _ _ r1 hr⟩⟩
    · exact hr.elim
  · obtain ⟨v, rfl, r1⟩ := repL1 rl
    split at hr
    · rename_i e
      obtain ⟨a, xs, rfl, h1, q1⟩ := rd_lst S r1 e
      rcases hr with ⟨is, e2, hne, q⟩ | ⟨t, ss, e2, q⟩
      · have e3 := ints_rep q1 e2
        subst e3
        refine cr_max (hc rfl) pins s σ H _ us Q I r ⟨a, is, rfl, .of h1, ?_, fun z hz hle => kk _ _ (.int _) (q z hz hle)⟩
        cases is with
        | nil => exact absurd rfl hne
        | cons _ _ => simp
      · have e3 := strs_rep q1 e2
        subst e3
        obtain ⟨its, rv, hl, _⟩ := I.list (.of h1)
        rw [Vals.ref1 r]
        refine PySem.W.max_list_datum (x := mkS t) (xs := ss.map mkS) (I.ok.hd (hc rfl)) hl.isList (holdAll_strs rv) (by show _ + 1 + 0 < _; omega) fun i v h' tk hi hv hk => ?_
        rw [maxS_eq] at hv
        obtain ⟨as, hv⟩ := hv
        cases hv
        exact ⟨V.str _, H, I.kept hk, ⟨_, rfl⟩, kk _ _ (.str _) q⟩
    · exact hr.elim
  · obtain ⟨v, rfl, r1⟩ := repL1 rl
    split at hr
    · rename_i e
      obtain ⟨a, xs, rfl, h1, q1⟩ := rd_lst S r1 e
      rcases hr with ⟨is, e2, hne, q⟩ | ⟨t, ss, e2, q⟩
      · have e3 := ints_rep q1 e2
        subst e3
        refine cr_min (hc rfl) pins s σ H _ us Q I r ⟨a, is, rfl, .of h1, ?_, fun z hz hle => kk _ _ (.int _) (q z hz hle)⟩
        cases is with
        | nil => exact absurd rfl hne
        | cons _ _ => simp
      · have e3 := strs_rep q1 e2
        subst e3
        obtain ⟨its, rv, hl, _⟩ := I.list (.of h1)
        rw [Vals.ref1 r]
        refine PySem.W.min_list_datum (x := mkS t) (xs := ss.map mkS) (I.ok.hd (hc rfl)) hl.isList (holdAll_strs rv) (by show _ + 1 + 0 < _; omega) fun i v h' tk hi hv hk => ?_
        rw [minS_eq] at hv
        obtain ⟨as, hv⟩ := hv
        cases hv
        exact ⟨V.str _, H, I.kept hk, ⟨_, rfl⟩, kk _ _ (.str _) q⟩
    · exact hr.elim
  · obtain ⟨v, rfl, r1⟩ := repL1 rl
    split at hr
    · rename_i e
      obtain ⟨a, xs, rfl, h1, q1⟩ := rd_lst S r1 e
      obtain ⟨sh, ks, e1, hnd, q⟩ := hr
      obtain ⟨bs, b1, b2, b3, b4⟩ := rows_bs q1 e1
      refine cr_sortedR hu pins s σ H _ us Q I r ⟨a, sh.kd, bs, rfl, by cases sh <;> exact nofun, by rw [b1]; exact .of h1, fun b hb => ?_, ?_, fun cs p hp hpw hn => ?_⟩
      · obtain ⟨g1, k, g2, g3⟩ := b4 b hb
        obtain ⟨g6, t, ys, g4, g5⟩ := rep_row g1 g2
        exact ⟨by rw [g3]; exact g6, t, ys, g4, by rw [g3, hK]; exact sqT_H S g5⟩
      · rw [b3]
        refine List.pairwise_map.mpr ((show ks.Pairwise (· ≠ ·) from hnd).imp ?_)
        intro x y hxy z
        exact hxy (kys_inj z)
      · have mem : ∀ b ∈ cs, b ∈ bs := fun b hb => hp.mem_iff.mp hb
        have hl : (cs.map (·.v)).length ≤ sizeLine := by
          rw [List.length_map, hp.length_eq, ← List.length_map (f := (·.v)), b1]
          exact S.bd a xs (.inl h1)
        have rr : RepL G W (cs.map (·.v)) (cs.map (·.d)) := repL_rw fun b hb => (b4 b (mem b hb)).1
        refine k (.lst (cs.map (·.d))) _ _ (W.new p _) (Step.new S hn) (S.new hn hl) (.lst upd_same (RepL.mono (le_new (S.none hn).1) _ rr)) (q _ (by rw [← b2]; exact hp.map _) ?_)
        refine List.pairwise_map.mpr (hpw.imp_of_mem fun {b c} hb hc hbc => ?_)
        obtain ⟨g1, k1, g2, g3⟩ := b4 b (mem b hb)
        obtain ⟨g1', k2, g4, g5⟩ := b4 c (mem c hc)
        rw [g3, g5] at hbc
        show (match rowD sh b.d, rowD sh c.d with
          | some x, some y => kyLt x y
          | _, _ => false) = true
        rw [g2, g4]
        exact ky_lt ((rep_row g1 g2).1.trans (rep_row g1' g4).1.symm) hbc
    · exact hr.elim
  · obtain ⟨v, rfl, r1⟩ := repL1 rl
    cases r1
    exact call_ord pins s σ H _ us Q I r ⟨_, rfl, rfl, kk _ _ (.int _) hr⟩
  · obtain ⟨v, rfl, r1⟩ := repL1 rl
    cases r1
    rename_i i
    have rr := int_rep (G := G) (W := W) i
    exact call_str_int pins s σ H _ us Q I r ⟨_, rfl, hr.1, kk _ _ rr hr.2⟩
  · obtain ⟨v, rfl, r1⟩ := repL1 rl
    cases r1
    exact SkE.call_str_str pins s σ H _ us Q I r ⟨_, rfl, kk _ _ (.str _) hr⟩
  · obtain ⟨v, rfl, r1⟩ := repL1 rl
    cases r1
    exact call_int1 pins s σ H _ us Q I r (.inl ⟨_, rfl, kk _ _ (.int _) hr⟩)
  · obtain ⟨v, rfl, r1⟩ := repL1 rl
    cases r1
    exact call_int1 pins s σ H _ us Q I r (.inr ⟨_, rfl, kk _ _ (.int _) hr⟩)
  · obtain ⟨v, rfl, r1⟩ := repL1 rl
    cases r1
    obtain ⟨n, e1, e2, q⟩ := hr
    exact call_int_str pins s σ H _ us Q I r ⟨_, n, rfl, e1, (by show (List.toArray _).size ≤ 640; simpa using e2), kk _ _ (.int _) q⟩
  · exact hr.elim
end
end Pk

/-! Sets of keys of any kind that is carried by value: made of a list, sorted, counted. -/
namespace Pk
open PySem PySem.Spec PyProof.Rows L2
/-- a kind of key, with how its values are written -/
structure Kd (P : Program) (w : World) (K : Type) [DecidableEq K] where
  knd : PySem.KeyKind P w K
  wr : K → Tok → Value
  gk : Value → K
  isk : ∀ k t, knd.is k (wr k t) = true
  scn : ∀ k t, (wr k t).scannable = true
  gkk : ∀ k t, gk (wr k t) = k
def kvI (P : Program) (w : World) : Kd P w Int := ⟨intKind P w, Value.int, fun v => match v with | .int k _ => k | _ => 0, fun k t => intKind_is P w k t, fun _ _ => rfl, fun _ _ => rfl⟩
def kvS (P : Program) (w : World) : Kd P w Str := ⟨PySem.strKind P w, Value.str, fun v => match v with | .str k _ => k | _ => Str.empty, fun k t => strKind_is P w k t, fun _ _ => rfl, fun _ _ => rfl⟩
section
variable {P : Program} {w : World} {K : Type} [DecidableEq K] (ν : Kd P w K)
abbrev Kd.ek (e : Int × Value) : K := ν.gk e.2
/-- an entry of a table -/
def Kd.Ent (e : Int × Value) : Prop := ∃ k t, e = (ν.knd.hash k, ν.wr k t)
/-- a table whose members are ks, in some order -/
structure Kd.Tbl (es : Array (Int × Value)) (t : SetTable) (ks : List K) : Prop where
  ent : ∀ e ∈ es.toList, ν.Ent e
  nd : ks.Nodup
  pm : (es.toList.map ν.ek).Perm ks
  few : es.size < scanBound
  fit : t.fits es.size = true
  ris : Ris t.place.toList
  led : w.params.followText "set-order" = true ∨ t.led = true
variable {ν}
theorem Kd.Ent.el {es : List (Int × Value)} (h : ∀ e ∈ es, ν.Ent e) : ElemsOf ν.knd es := fun e he => by
  obtain ⟨k, t, rfl⟩ := h e he
  exact ⟨⟨k, ν.isk k t, rfl⟩, ν.scn k t⟩
theorem Kd.Ent.is {e : Int × Value} (h : ν.Ent e) (k : K) : ν.knd.is k e.2 = true ↔ ν.ek e = k := by
  obtain ⟨j, t, rfl⟩ := h
  unfold Kd.ek
  rw [ν.gkk]
  exact ⟨fun q => ν.knd.inj _ _ _ (ν.isk j t) q, fun q => q ▸ ν.isk j t⟩
theorem Kd.Tbl.size {es : Array (Int × Value)} {t : SetTable} {ks : List K} (h : ν.Tbl es t ks) : es.size = ks.length := by
  rw [← h.pm.length_eq, List.length_map, Array.length_toList]
theorem Kd.Tbl.plain {es : Array (Int × Value)} {t t' : SetTable} {ks : List K} (h : ν.Tbl es t ks) (f : t'.fits es.size = true) (p : t'.place = t.place) (l : t'.led = t.led) : ν.Tbl es t' ks :=
  ⟨h.ent, h.nd, h.pm, h.few, f, by rw [p]; exact h.ris, by rw [l]; exact h.led⟩
/-- one more -/
theorem Kd.Tbl.lay {es : Array (Int × Value)} {t : SetTable} {ks : List K} (h : ν.Tbl es t ks) {k : K} {tk : Tok} (hk : k ∉ ks) (room : ks.length + 1 < scanBound) :
    ν.Tbl (layNew t es (ν.knd.hash k) (ν.wr k tk)).1 (layNew t es (ν.knd.hash k) (ν.wr k tk)).2.1 (k :: ks) := by
  have pm := layNew_perm t es (ν.knd.hash k) (ν.wr k tk)
  rw [Array.toList_push] at pm
  have pc := pm.trans (List.perm_append_singleton _ _)
  have pk := pc.map ν.ek
  rw [List.map_cons] at pk
  have e1 : ν.ek (ν.knd.hash k, ν.wr k tk) = k := ν.gkk k tk
  rw [e1] at pk
  refine ⟨fun e he => ?_, List.nodup_cons.mpr ⟨hk, h.nd⟩, pk.trans (h.pm.cons k), ?_, layNew_fits .., layNew_ris _ _ _ _ h.ris, ?_⟩
  · rcases List.mem_cons.mp (pc.mem_iff.mp he) with z | z
    · exact ⟨k, tk, z⟩
    · exact h.ent e z
  · have q := pc.length_eq
    rw [Array.length_toList, List.length_cons, Array.length_toList, h.size] at q
    rw [q]
    exact room
  · rw [layNew_led]
    exact h.led
theorem Kd.Tbl.relay {es : Array (Int × Value)} {t : SetTable} {ks : List K} (h : ν.Tbl es t ks) (n : Nat) : ν.Tbl (relayAll t es n).1 (relayAll t es n).2.1 ks := by
  have pm := relayAll_perm t es n
  have e : (relayAll t es n).1.size = es.size := by rw [← Array.length_toList, pm.length_eq, Array.length_toList]
  refine ⟨fun x hx => h.ent x (pm.mem_iff.mp hx), h.nd, (pm.map _).trans h.pm, by rw [e]; exact h.few, relayAll_fits .., relayAll_ris .., ?_⟩
  rw [relayAll_led]
  exact h.led
/-- the set at a has the members ks -/
def Kd.At (ν : Kd P w K) (h : Heap) (a : Addr) (ks : List K) : Prop := ∃ o es ep t, h.get? a = some o ∧ o.ExactSet ∧ o.data = .set es ep t ∧ ν.Tbl es t ks
theorem Kd.At.keep {h h' : Heap} {a : Addr} {ks : List K} (x : ν.At h a ks) (k : ∀ o, h.get? a = some o → h'.get? a = some o) : ν.At h' a ks := by
  obtain ⟨o, es, ep, t, ho, r⟩ := x
  exact ⟨o, es, ep, t, k o ho, r⟩
theorem Kd.at_put {h : Heap} {a : Addr} {o : Obj} {es es' : Array (Int × Value)} {ep : Nat} {t t' : SetTable} {ks : List K} (ho : h.get? a = some o) (hx : o.ExactSet) (hd : o.data = .set es ep t) (T : ν.Tbl es' t' ks) :
    ν.At (h.update a (Obj.putSet es' t')) a ks :=
  ⟨_, es', ep + 1, t', store_at ho hd, hx, rfl, T⟩
variable {A : Around} {E : Value → Shared → Prop} {s : Shared} {a : Addr}
/-- a rule that may be told -/
def Quiet (P : Program) (w : World) (g : Bool → Sem Unit) : Prop := ∀ (A : Around) (E : Value → Shared → Prop) (b : Bool) (s : Shared) (Q : Unit → Shared → Prop), Q () s → wpAny (model P w) A (g b) Q E s
/-- add -/
theorem Kd.add {ks : List K} {k : K} {tk : Tok} {Q : Bool → Shared → Prop} (X : ν.At s.heap a ks) (room : ks.length + 1 < scanBound)
    (hQ : ∀ h' b, Heap.SameBut a s.heap h' → ν.At h' a (if k ∈ ks then ks else k :: ks) → Q b { s with heap := h' }) :
    wpAny (model P w) A (setAddHashed a (ν.wr k tk) (ν.knd.hash k)) Q E s := by
  obtain ⟨o, es, ep, t, ho, hx, hd, T⟩ := X
  have el : ElemsOf ν.knd es.toList := Kd.Ent.el T.ent
  unfold setAddHashed setAddHashedIn
  refine wpAny_holding (wpAny_bind (wpAny_setState_of ho hd T.fit ?_))
  dsimp only
  rw [byScan_of (ν.scn k tk) T.few el]
  simp only [↓reduceIte]
  unfold setAddByScan
  refine wpAny_bind (wpAny_bind (wpAny_rule (wpAny_bind (wpAny_setScan_of (ν.isk k tk) ho hd T.fit el ?_))))
  cases hf : List.findIdx? (fun e => ν.knd.is k e.2) es.toList with
  | some j =>
    dsimp only
    obtain ⟨hj, pj, _⟩ := List.findIdx?_eq_some_iff_getElem.mp hf
    have hm : k ∈ ks := by
      refine T.pm.mem_iff.mp (List.mem_map.mpr ⟨es.toList[j], List.getElem_mem hj, ?_⟩)
      exact ((T.ent _ (List.getElem_mem hj)).is k).mp pj
    refine wpAny_pure (wpAny_pure (hQ s.heap _ (Heap.SameBut.refl a s.heap) ?_))
    rw [if_pos hm]
    exact ⟨o, es, ep, t, ho, hx, hd, T⟩
  | none =>
    dsimp only
    have hm : k ∉ ks := fun z => by
      obtain ⟨e, he, q⟩ := List.mem_map.mp (T.pm.mem_iff.mpr z)
      have c := List.findIdx?_eq_none_iff.mp hf e he
      rw [((T.ent e he).is k).mpr q] at c
      cases c
    have T1 := T.lay (tk := tk) hm room
    have goal : ∀ {g : Bool → Sem Unit}, Quiet P w g → ∀ {es' : Array (Int × Value)} {t' : SetTable}, ν.Tbl es' t' (k :: ks) → ∀ {R : Bool → Shared → Prop}, (∀ h' b, Heap.SameBut a s.heap h' → ν.At h' a (k :: ks) → R b { s with heap := h' }) →
        ∀ wd : Bool, wpAny (model P w) A (do
          storeSet a es' t'
          if (!wd && t'.tooFull) = true then do
            g (relayAll t' es' (SetTable.grown es'.size)).2.2
            storeSet a (relayAll t' es' (SetTable.grown es'.size)).1 (relayAll t' es' (SetTable.grown es'.size)).2.1
            pure (some true)
          else pure (some true)) (fun r s₁ => wpAny (model P w) A (match r with | some b => pure b | none => setAddHashedIn a (ν.wr k tk) (ν.knd.hash k) 99999) R E s₁) E s := by
      intro g hg es' t' T' R hR wd
      refine wpAny_bind (wpAny_storeSet_of ho hd ?_ (fits_of_scanBound T'.few))
      have ho1 := store_at (es' := es') (t' := t') ho hd
      have sb := Heap.SameBut.update s.heap a (Obj.putSet es' t')
      split
      · have T2 := T'.relay (SetTable.grown es'.size)
        refine wpAny_bind (hg _ _ _ _ _ ?_)
        refine wpAny_bind (wpAny_storeSet_of ho1 rfl ?_ (fits_of_scanBound T2.few))
        exact wpAny_pure (wpAny_pure (hR _ _ (sb.trans (Heap.SameBut.update ..)) (Kd.at_put ho1 hx rfl T2)))
      · exact wpAny_pure (wpAny_pure (hR _ _ sb (Kd.at_put ho hx hd T')))
    have hQ' : ∀ h' b, Heap.SameBut a s.heap h' → ν.At h' a (k :: ks) → Q b { s with heap := h' } := fun h' b sb x => hQ h' b sb (by rw [if_neg hm]; exact x)
    generalize layNew t es (ν.knd.hash k) (ν.wr k tk) = Z at T1 ⊢
    obtain ⟨es1, t1, wd, gave⟩ := Z
    dsimp only at T1 ⊢
    refine wpAny_bind (show wpAny _ _ (match gave with | true => rule "set.scan.the-table-gave-way" | false => pure ()) _ _ _ from ?_)
    have hg : ∀ (b : Bool) {s₁ : Shared} {Q' : Unit → Shared → Prop}, Q' () s₁ → wpAny (model P w) A (match b with | true => rule "set.scan.the-table-gave-way" | false => pure ()) Q' E s₁ := fun b s₁ Q' q => by cases b <;> first | exact wpAny_pure q | exact wpAny_rule q
    refine hg gave ?_
    split
    · rw [hashByValue_scannable 8 (ν.scn k tk)]
      refine wpAny_bind (wpAny_pure ?_)
      refine goal (fun A E b s Q q => by cases b <;> first | exact wpAny_pure q | exact wpAny_rule q) ?_ hQ' wd
      split
      · exact T1
      · exact T1.plain (SetTable.fits_plain_off T1.fit) rfl rfl
    · refine wpAny_bind (wpAny_pure ?_)
      simp only [↓reduceIte]
      exact goal (fun A E b s Q q => by cases b <;> first | exact wpAny_pure q | exact wpAny_rule q) T1 hQ' wd
theorem Kd.fresh {h : Heap} (ho : h.get? a = some { cls := .type "set", dict := none, data := .set #[] 0 (.fresh 0 0 (!w.params.followText "set-order")) }) : ν.At h a [] :=
  ⟨_, #[], 0, _, ho, ⟨rfl, rfl, rfl⟩, rfl, ⟨fun e he => by simp at he, List.nodup_nil, List.Perm.nil, by decide, rfl, List.Pairwise.nil, by
    show _ ∨ (!w.params.followText "set-order") = true
    cases w.params.followText "set-order"
    · exact .inr rfl
    · exact .inl rfl⟩⟩
/-- every member of ks0 is added, one behind the other -/
theorem Kd.loop {I : Addr} {fp wr : List Addr} {G : Array GenState → Array GenState → Prop} {n : Nat} {Pv : Nat → Value → Prop} {St : Nat → Shared → Prop} {R : Result → Shared → Prop}
    (W : WalksS P w A.in1 I fp wr G n Pv St) (hS : a ∉ fp) {k0 : List K} (hn : n = k0.length) (hb : k0.length + 1 < scanBound) (hv : ∀ i v, Pv i v → ∃ k t, k0[i]? = some k ∧ v = ν.wr k t) :
    ∀ (m i : Nat) (s : Shared), n - i = m → i ≤ n → St i s → (∃ ks, ν.At s.heap a ks ∧ ks.length ≤ i ∧ ∀ x, x ∈ ks ↔ x ∈ k0.take i) →
      (∀ s' ks, Moved (a :: wr) G s s' → ν.At s'.heap a ks → ks.length ≤ n → (∀ x, x ∈ ks ↔ x ∈ k0) → R (.ok (.ret .none)) s') →
      codeAny (model P w) A (.builtin "set.update.loop" ⟨[.ref a, .ref I], []⟩) R s
  | 0, i, s, hm, hi, st, ⟨ks, X, hl, hk⟩, hR => by
    have e : i = n := by omega
    subst e
    refine codeAny_builtin F.entry_set_update_loop ?_
    rw [Around.under_plainId F.plain_set_update_loop _]
    show wpAny _ A.in1 (pyNext (.ref I) >>= _) _ _ s
    refine wpAny_bind (W.done s _ _ st fun s' mv => ?_)
    refine wpAny_pure (hR s' ks (mv.mono fun b hb => List.mem_cons_of_mem _ hb) (X.keep fun o e => mv.heap a o (fun z => hS (W.sub _ z)) e) hl fun x => ?_)
    rw [hk, List.take_of_length_le (by omega)]
  | m + 1, i, s, hm, hi, st, ⟨ks, X, hl, hk⟩, hR => by
    have hlt : i < n := by omega
    refine codeAny_builtin F.entry_set_update_loop ?_
    rw [Around.under_plainId F.plain_set_update_loop _]
    show wpAny _ A.in1 (pyNext (.ref I) >>= _) _ _ s
    refine wpAny_bind (W.item i s _ _ hlt st fun v s' hP st' mv => ?_)
    obtain ⟨k, t, hk0, rfl⟩ := hv i v hP
    have X' := X.keep (h' := s'.heap) fun o e => mv.heap a o (fun z => hS (W.sub _ z)) e
    show wpAny _ A.in1 (holding [ν.wr k t] (setAdd a (ν.wr k t)) >>= _) _ _ s'
    refine wpAny_bind (wpAny_holding ?_)
    unfold setAdd
    refine wpAny_holding (wpAny_bind (ν.knd.pyHash (ν.isk k t) ?_))
    refine Kd.add (s := { s' with toks := s'.toks + 1 }) X' (by omega) fun h' b sb X2 => ?_
    refine wpAny_pure ⟨plainId_quiet F.plain_set_update_loop _, Kd.loop W hS hn hb hv m (i + 1) _ (by omega) hlt (W.frame _ s' _ _ st' (Nat.le_succ _) fun b hb o e => ?_) ⟨_, X2, ?_, fun x => ?_⟩ fun s2 ks2 mv2 X3 l3 k3 => ?_⟩
    · rw [sb.2 b fun z => hS (z ▸ hb)]
      exact e
    · split
      · omega
      · rw [List.length_cons]; omega
    · rw [List.take_add_one, hk0, List.mem_append, ← hk]
      split
      · rename_i hin
        refine ⟨.inl, fun z => z.elim id fun z => ?_⟩
        have e : x = k := by simpa using z
        rw [e]
        exact hin
      · rw [List.mem_cons]
        refine ⟨fun z => z.elim (fun z => .inr (by simp [z])) .inl, fun z => z.elim .inr fun z => .inl (by simpa using z)⟩
    · refine hR s2 ks2 (Moved.trans W.gtrans ((mv.mono fun b hb => List.mem_cons_of_mem _ hb).then_heap (Nat.le_succ _) fun b o hb e => ?_) mv2) X3 l3 k3
      rw [sb.2 b fun z => hb (by rw [z]; exact List.mem_cons_self)]
      exact e
/-- set(a list) -/
theorem Kd.of_list {l : Addr} {items : Array Value} {k0 : List K} {Q : Value → Shared → Prop} (hh : A.handled = none) (hl : s.heap.IsList l items) (hi : ∀ (i : Nat) v, items[i]? = some v → ∃ k t, k0[i]? = some k ∧ v = ν.wr k t) (hn : items.size = k0.length) (hb : k0.length + 1 < scanBound)
    (h : ∀ (h' : Heap) (tk : Nat) (ks : List K), ν.At h' s.heap.objs.size ks → ks.length ≤ k0.length → (∀ x, x ∈ ks ↔ x ∈ k0) → (∀ b o, s.heap.get? b = some o → h'.get? b = some o) → Q (.ref s.heap.objs.size) { s with heap := h', toks := tk }) :
    wpAny (model P w) A (call (.type "set") [.ref l]) Q E s := by
  obtain ⟨c, tl, hmro⟩ := F.called_set.mro
  have hmade := F.called_set.made
  have hsub := F.called_set.sub
  refine wpAny_call (codeAny_of_tree ?_)
  show wpAny _ _ (callAny (.type "set") _) _ _ _
  refine wpAny_pure ⟨Code.quiet_builtin _ (by decide +kernel), codeAny_builtin F.entry_type_call ?_⟩
  rw [Around.under_plain (weight_type_call_type "set" [.ref l] []) rfl]
  have h1 := F.called_set.notType
  have h2 := F.called_set.canCreate
  have hct := F.typeCall_set_1 (.ref l)
  repeat (any_goals (first | assumption | wp_step))
  refine codeAny_mono (code_set_led1 (.ref l) (E := E) (Q₁ := fun obj s₁ => obj = .ref s.heap.objs.size ∧ s₁ = { s with heap := s.heap.push { cls := .type "set", dict := none, data := .set #[] 0 (.fresh 0 0 (!w.params.followText "set-order")) } }) ⟨rfl, rfl⟩) fun r s₁ hr => ?_
  cases r with
  | error e => exact hr
  | ok fl =>
    cases fl with
    | ret obj =>
      obtain ⟨rfl, rfl⟩ := hr
      have hS : (s.heap.push { cls := .type "set", dict := none, data := .set #[] 0 (.fresh 0 0 (!w.params.followText "set-order")) }).get? s.heap.objs.size = some { cls := .type "set", dict := none, data := .set #[] 0 (.fresh 0 0 (!w.params.followText "set-order")) } := Heap.get?_push_size _ (rfl)
      have hz : (s.heap.push { cls := .type "set", dict := none, data := .set #[] 0 (.fresh 0 0 (!w.params.followText "set-order")) }).objs.size = s.heap.objs.size + 1 := Heap.size_push ..
      have hT : Shared.TypeIs { s with heap := s.heap.push { cls := .type "set", dict := none, data := .set #[] 0 (.fresh 0 0 (!w.params.followText "set-order")) } } (.ref s.heap.objs.size) "set" := ⟨_, hS, rfl⟩
      have hli := F.called_set.init.lookup
      have hbi := F.called_set.init.bind (.ref s.heap.objs.size)
      repeat (any_goals (first | assumption | wp_step))
      refine codeAny_mono (codeAny_call_builtin (R := wants (fun r s₂ => r = .none ∧ ∃ h' tk ks, s₂ = { s with heap := h', toks := tk } ∧ ν.At h' s.heap.objs.size ks ∧ ks.length ≤ k0.length ∧ (∀ x, x ∈ ks ↔ x ∈ k0) ∧
          (∀ b o, s.heap.get? b = some o → h'.get? b = some o)) E) F.called_set.init.plain F.entry_set_init (check_set_init_1 hT ?_)) fun r₂ s₂ hr₂ => ?_
      · obtain ⟨ol, hol, hcl, nl, hdl⟩ := hl
        obtain ⟨ocls, odict, odata, oslots⟩ := ol
        simp only at hcl hdl
        subst hcl; subst hdl
        have hlS : l < s.heap.objs.size := Heap.lt_size hol
        have hol' : (s.heap.push { cls := .type "set", dict := none, data := .set #[] 0 (.fresh 0 0 (!w.params.followText "set-order")) }).get? l = some { cls := .type "list", dict := odict, data := .seq items nl, slots := oslots } := Heap.get?_push_of_some _ hol
        have hsls := F.sub_list_set
        have hslf := F.sub_list_frozenset
        have hne : (Value.type "list" == Value.type "dict") = false := by decide
        have hl1 : (s.heap.push { cls := .type "set", dict := none, data := .set #[] 0 (.fresh 0 0 (!w.params.followText "set-order")) }).IsList l items := ⟨_, hol', rfl, nl, rfl⟩
        unfold Builtin.«set.__init__» noKeywords Builtin.Frozenset.updateFrom
        generalize hPI : pyIter = PI
        wp_walk
        subst hPI
        refine wpAny_pyIter_list hl1 ?_
        refine wpAny_bind (wpAny_runValue ?_)
        have hh3 : A.in1.in1.in1.handled = none := by simp [hh]
        refine Kd.loop (ν := ν) (a := s.heap.objs.size) (k0 := k0) ((Walks.list hh3 _ l (by rw [hz]; exact Nat.ne_of_lt (Nat.lt_succ_of_lt hlS)) items).toS) ?_ hn hb hi (items.size - 0) 0 _ (by omega) (Nat.zero_le _)
          ⟨⟨_, Heap.get?_push_size _ rfl, rfl, rfl⟩, hl1.push _⟩ ⟨[], Kd.fresh (Heap.get?_push_of_some _ (hS)), Nat.zero_le _, fun x => by simp⟩ fun s' ks mv X l3 k3 => ?_
        · rw [hz]
          simp only [List.mem_cons, List.not_mem_nil, or_false, not_or]
          exact ⟨Nat.ne_of_lt (Nat.lt_succ_self _), Nat.ne_of_gt hlS⟩
        · obtain ⟨h', g', d', tk', os'⟩ := s'
          have eg : g' = s.gens := mv.gens
          have ed : d' = s.drawn := mv.drawn
          have eo : os' = s.os := mv.os
          subst eg; subst ed; subst eo
          refine wpAny_pure (wpAny_pure ⟨rfl, h', tk', ks, rfl, X, by omega, k3, fun b o e => ?_⟩)
          have hb1 : b < s.heap.objs.size := Heap.lt_size e
          refine mv.heap b o ?_ (Heap.get?_push_of_some _ (Heap.get?_push_of_some _ e))
          rw [hz]
          simp only [List.mem_cons, List.not_mem_nil, or_false, not_or]
          exact ⟨Nat.ne_of_lt hb1, Nat.ne_of_lt (Nat.lt_succ_of_lt hb1)⟩
      · cases r₂ with
        | error e => exact hr₂
        | ok fl₂ =>
          cases fl₂ with
          | ret r =>
            obtain ⟨rfl, h', tk, ks, rfl, X, l3, k3, k4⟩ := hr₂
            repeat (any_goals (first | assumption | wp_step))
            exact h _ _ _ X l3 k3 k4
          | _ => exact hr₂.elim
    | _ => exact hr.elim
end
end Pk

/-! sorted(set), len(set). -/
namespace Pk
open PySem PySem.Spec PyProof.Rows L2
section
variable {P : Program} {w : World} {K : Type} [DecidableEq K] {ν : Kd P w K} {A : Around} {E : Value → Shared → Prop} {s : Shared} {a : Addr}
/-- the values of keys -/
abbrev Kd.Is (ν : Kd P w K) (v : Value) (k : K) : Prop := ∃ t, v = ν.wr k t
theorem Kd.each : ∀ {es : List (Int × Value)}, (∀ e ∈ es, ν.Ent e) → PySem.W.EachIs ν.Is (es.map (·.2)) (es.map ν.ek)
  | [], _ => .nil
  | e :: es, h => by
    obtain ⟨k, t, rfl⟩ := h e List.mem_cons_self
    exact .cons ⟨t, by show ν.wr k t = ν.wr (ν.gk (ν.wr k t)) t; rw [ν.gkk]⟩ (Kd.each fun x hx => h x (List.mem_cons_of_mem _ hx))
/-- values with keys, in another order -/
theorem Kd.vals_keys {vs ws : List Value} (pm : vs.Perm ws) (h : ∀ v ∈ ws, ∃ k t, v = ν.wr k t) : PySem.W.EachIs ν.Is vs (vs.map ν.gk) := by
  have h' : ∀ v ∈ vs, ∃ k t, v = ν.wr k t := fun v hv => h v (pm.mem_iff.mp hv)
  clear pm h
  induction vs with
  | nil => exact .nil
  | cons v vs ih =>
    obtain ⟨k, t, e⟩ := h' v List.mem_cons_self
    refine .cons ⟨t, ?_⟩ (ih fun x hx => h' x (List.mem_cons_of_mem _ hx))
    rw [e, ν.gkk]
theorem Kd.sorted {ks : List K} {enc : K → PyData} {Q : Value → Shared → Prop} (hh : A.handled = none) (X : ν.At s.heap a ks) (hr : ∀ h k t, Reads h (ν.wr k t) (enc k) []) (ha : ∀ b b', PySem.W.alike (enc b) (enc b') = true)
    (hk : ∀ b, enc b ≠ .none ∧ ∀ xs, enc b ≠ .tuple xs) (hd : ∀ b, (enc b).depth = 0) (hu : A.units + 2 < cLine)
    (hQ : ∀ s' p (out : Array Value) (c : Nat) (ks' : List K), (∀ b o, s.heap.get? b = some o → s'.heap.get? b = some o) → s'.gens = s.gens → s'.os = s.os → s.heap.objs.size ≤ p →
      s'.heap.get? p = some (seqObj "list" out c) → ks'.Perm ks → out.size = ks.length → PySem.W.EachIs ν.Is out.toList (ks'.mergeSort (PySem.W.dataLe false enc)) → Q (.ref p) s') :
    wpAny (model P w) A (call (.builtin "sorted") [.ref a]) Q E s := by
  obtain ⟨o, es, ep, t, ho, hx, he, T⟩ := X
  refine Calls.call_function_entry kind_sorted plain_sorted entry_sorted (args_sorted1 _) ?_
  unfold Builtin.«sorted»
  refine wpAny_bind (m := checkCount "sorted" 1 1 _) (wpAny_pure ?_)
  refine wpAny_bind (collect_set (A := A.in1) hh ⟨o, ho, hx.1, he⟩ T.fit T.few T.ris T.led fun s1 vs k1 hz g1 o1 pm => ?_)
  have hv : ∀ v ∈ es.toList.map (·.2), ∃ k t, v = ν.wr k t := fun v hv => by
    obtain ⟨e, h1, h2⟩ := List.mem_map.mp hv
    obtain ⟨k, t, h3⟩ := T.ent e h1
    exact ⟨k, t, by rw [← h2, h3]⟩
  have ei := Kd.vals_keys pm hv
  have pk : (vs.map ν.gk).Perm ks := by
    have q := pm.map ν.gk
    rw [List.map_map] at q
    exact q.trans T.pm
  have hl : vs.length = ks.length := by rw [← pk.length_eq, List.length_map]
  have hL : vs.length ≤ sizeLine := by
    rw [hl, ← T.size]
    exact fits_of_scanBound T.few
  refine wpAny_bind (wpAny_newList ?_ hL)
  have hoL : (s1.heap.push (seqObj "list" vs.toArray 0)).get? s1.heap.objs.size = some (seqObj "list" vs.toArray 0) := Heap.get?_push_size _ rfl
  refine wpAny_bind (wpAny_holding (PySem.W.list_sort_data (s := { s1 with heap := s1.heap.push (seqObj "list" vs.toArray 0) }) (bs := vs.map ν.gk) (enc := enc) (R := ν.Is) hoL ei
    (ei.mono fun v b ⟨t, e⟩ => ⟨[], by rw [e]; exact hr _ _ _, List.not_mem_nil⟩) (PySem.W.AllAlike.of ha) (PySem.W.Sortable.others hk) (by rw [List.length_map]; exact hL) (fun b _ => by rw [hd]; show A.units + 1 + 1 + 0 < cLine; omega) fun out hlen hout => ?_))
  obtain ⟨c, hc⟩ := sortedHeap_at (vs := vs) (out := out.toArray) hoL
  refine wpAny_pure ⟨_, rfl, hQ _ s1.heap.objs.size out.toArray c _ (fun b u e => ?_) g1 o1 hz hc pk ?_ (by simpa using hout)⟩
  · have q := k1 b u e
    have hlt := Heap.lt_size q
    show (sortedHeap (s1.heap.push (seqObj "list" vs.toArray 0)) s1.heap.objs.size vs out.toArray).get? b = some u
    rw [sortedHeap_old (Nat.ne_of_lt hlt) (by rw [size_push']; exact Nat.lt_succ_of_lt hlt)]
    exact Heap.get?_push_of_some _ q
  · rw [List.size_toArray, hlen, List.length_map]
    exact hl
theorem Kd.len {ks : List K} {Q : Value → Shared → Prop} (X : ν.At s.heap a ks) (h : Q (.int ks.length (s.toks + 1)) { s with toks := s.toks + 1 + 1 }) : wpAny (model P w) A (call (.builtin "len") [.ref a]) Q E s := by
  obtain ⟨o, es, ep, t, ho, hx, he, T⟩ := X
  refine call_len_set ho hx he T.fit ?_ (by rw [T.size]; exact h)
  have := T.few
  unfold scanBound at this
  omega
end
/-! ### the order of what is told -/
theorem sort_ints {ks is : List Int} (nd : ks.Nodup) (h : ∀ x, x ∈ ks ↔ x ∈ is) : ∃ out : List Int, ks.mergeSort (PySem.W.dataLe false fun b => .int b) = out ∧ out.Pairwise (· < ·) ∧ ∀ x, x ∈ out ↔ x ∈ is := by
  refine ⟨_, rfl, ?_, fun x => by rw [List.mem_mergeSort]; exact h x⟩
  rw [show (PySem.W.dataLe false fun b : Int => PyData.int b) = fun a b => decide (a ≤ b) from PySem.W.dataLe_int (fun b => b)]
  have h1 := List.pairwise_mergeSort (le := fun a b : Int => decide (a ≤ b)) (fun a b c h1 h2 => by simp only [decide_eq_true_eq] at *; omega) (fun a b => by simp only [Bool.or_eq_true, decide_eq_true_eq]; omega) ks
  have h2 : (ks.mergeSort fun a b => decide (a ≤ b)).Nodup := (List.mergeSort_perm ks _).nodup_iff.mpr nd
  exact (h1.imp₂ (R := fun a b => decide (a ≤ b) = true) (S := (· ≠ ·)) (T := (· < ·)) (fun {a b} h3 h4 => by simp only [decide_eq_true_eq] at h3; omega) h2 : List.Pairwise (· < ·) _)
theorem sltB_irr (a : List Nat) : sltB a a = false := by
  rw [sltB_eq, decide_eq_false_iff_not]
  exact List.lt_irrefl a
theorem sort_strs {ks : List Str} {ss : List (List Nat)} (nd : ks.Nodup) (h : ∀ x, x ∈ ks ↔ x ∈ ss.map mkS) : ∃ out : List (List Nat), ks.mergeSort (PySem.W.dataLe false fun b => .str b) = out.map mkS ∧ (out.Pairwise fun a b => sltB a b = true) ∧ ∀ x, x ∈ out ↔ x ∈ ss := by
  rw [show (PySem.W.dataLe false fun b : Str => PyData.str b) = fun a b => decide (a.cps.toList ≤ b.cps.toList) from PySem.W.dataLe_str (fun b => b)]
  have lin : ∀ a b : List Nat, a ≤ b ∨ b ≤ a := fun a b => List.le_total a b
  have h1 := List.pairwise_mergeSort (le := fun a b : Str => decide (a.cps.toList ≤ b.cps.toList)) (fun a b c h1 h2 => by simp only [decide_eq_true_eq] at *; exact List.le_trans h1 h2) (fun a b => by simp only [Bool.or_eq_true, decide_eq_true_eq]; exact lin _ _) ks
  have h2 : (ks.mergeSort fun a b => decide (a.cps.toList ≤ b.cps.toList)).Nodup := (List.mergeSort_perm ks _).nodup_iff.mpr nd
  have h3 := List.Pairwise.and h1 h2
  refine ⟨(ks.mergeSort fun a b => decide (a.cps.toList ≤ b.cps.toList)).map fun x => x.cps.toList, ?_, ?_, fun x => ?_⟩
  · rw [List.map_map]
    refine (List.map_id'' (f := mkS ∘ fun x : Str => x.cps.toList) (fun x => ?_) _).symm
    show (⟨x.cps.toList.toArray⟩ : Str) = x
    rw [Array.toArray_toList]
  · refine List.pairwise_map.mpr (h3.imp fun {a b} ⟨p, q⟩ => ?_)
    rw [sltB_eq, decide_eq_true_eq]
    have p' : a.cps.toList ≤ b.cps.toList := by simpa using p
    by_cases z : a.cps.toList < b.cps.toList
    · exact z
    · exfalso
      have z := List.le_antisymm p' (List.not_lt.mp z)
      refine q ?_
      obtain ⟨x⟩ := a
      obtain ⟨y⟩ := b
      simp only at z
      rw [Array.toList_inj.mp z]
  · rw [List.mem_map]
    constructor
    · rintro ⟨y, hy, rfl⟩
      rw [List.mem_mergeSort, h, List.mem_map] at hy
      obtain ⟨z, hz, rfl⟩ := hy
      simpa [mkS] using hz
    · intro hx
      refine ⟨mkS x, ?_, by simp [mkS]⟩
      rw [List.mem_mergeSort, h]
      exact List.mem_map.mpr ⟨x, hx, rfl⟩
/-! ### over the layer -/
def tSset (K : PySem.W.Frag) (f : Bool) (ta : TE) : TE := fun σ H Q => ta σ H fun x H1 => ∃ (l : Addr) (vs : List V) (kk : List V → Prop), x = .ref l ∧ SqL K H1 l vs ∧ vs.length < 4000 ∧
  ((∃ is : List Int, vs = is.map V.int ∧ ∀ out : List Int, out.Pairwise (· < ·) → (∀ x, x ∈ out ↔ x ∈ is) → kk (out.map V.int)) ∨
   (∃ ss : List (List Nat), vs = (ss.map mkS).map V.str ∧ ∀ out : List (List Nat), (out.Pairwise fun a b => sltB a b = true) → (∀ x, x ∈ out ↔ x ∈ ss) → kk ((out.map mkS).map V.str))) ∧
  ∀ ws, kk ws → if f = true then ∀ p, H1 p = none → ws.length ≤ sizeLine → Q (.ref p) (upd H1 p (.lst ws)) else Q (.int (ws.length : Nat)) H1
theorem vals_each {K : Type} [DecidableEq K] {P : Program} {w : World} {ν : Kd P w K} {g : K → V} (hg : ∀ k t, RelV (g k) (ν.wr k t)) : ∀ {us : List Value} {ks : List K}, PySem.W.EachIs ν.Is us ks → Vals (ks.map g) us
  | _, _, .nil => .nil
  | _, _, .cons ⟨t, e⟩ r => .cons (by rw [e]; exact hg _ _) (vals_each hg r)
theorem each_vals {K : Type} [DecidableEq K] {P : Program} {w : World} {ν : Kd P w K} {g : K → V} (hg : ∀ k v, RelV (g k) v → ∃ t, v = ν.wr k t) : ∀ {us : List Value} {ks : List K}, Vals (ks.map g) us → ∀ (i : Nat) v, us[i]? = some v → ∃ k t, ks[i]? = some k ∧ v = ν.wr k t
  | _, [], .nil, i, v, h => by simp at h
  | _, k :: ks, .cons r t, i, v, h => by
    cases i with
    | zero =>
      obtain ⟨tk, e⟩ := hg _ _ r
      have h' := Option.some.inj h
      exact ⟨k, tk, rfl, by rw [← h', e]⟩
    | succ i => exact each_vals hg t i v h
section
variable {X : Cx}
/-- sorted or counted, of any kind -/
theorem set_tail {K : Type} [DecidableEq K] {ν : Kd X.prog X.w K} {g : K → V} {enc : K → PyData} (hg : ∀ k t, RelV (g k) (ν.wr k t)) (hg2 : ∀ k v, RelV (g k) v → ∃ t, v = ν.wr k t)
    (hr : ∀ h k t, Reads h (ν.wr k t) (enc k) []) (ha : ∀ b b', PySem.W.alike (enc b) (enc b') = true) (hk : ∀ b, enc b ≠ .none ∧ ∀ xs, enc b ≠ .tuple xs) (hd : ∀ b, (enc b).depth = 0)
    {pins : List (Addr × Obj)} {s : Shared} {σ : List (Option V)} {H : Hp} {E : Value → Shared → Prop} {l : Addr} {k0 : List K} {f : Bool} {Q : VK} (hc : X.calm = true) (hu : X.A.units + 64 < cLine) (I : Inv X pins σ H s) (hl : SqL X.K H l (k0.map g)) (hn : k0.length < 4000)
    (q : ∀ ks : List K, ks.Nodup → (∀ x, x ∈ ks ↔ x ∈ k0) → if f = true then ∀ p, H p = none → ks.length ≤ sizeLine → Q (.ref p) (upd H p (.lst ((ks.mergeSort (PySem.W.dataLe false enc)).map g))) else Q (.int (ks.length : Nat)) H) :
    wpAny (model X.prog X.w) X.A (call (.type "set") [.ref l]) (fun v s1 => wpAny (model X.prog X.w) X.A (call (.builtin (if f = true then "sorted" else "len")) [v]) (EP X pins σ Q) E s1) E s := by
  obtain ⟨its, r, pl, hz⟩ := I.list hl
  have hlen : its.toArray.size = k0.length := by rw [List.size_toArray, ← r.length, List.length_map]
  refine Kd.of_list (ν := ν) (I.ok.hd hc) pl.isList (fun i v e => each_vals hg2 r i v (by simpa using e)) hlen (by unfold scanBound; omega) fun h' tk ks At hle hks kp => ?_
  have I1 : Inv X pins σ H { s with heap := h', toks := tk } := I.kept kp
  have hnd : ks.Nodup := by
    obtain ⟨_, _, _, _, _, _, _, T⟩ := At
    exact T.nd
  cases f with
  | false =>
    have q := q ks hnd hks
    exact Kd.len (ν := ν) (s := { s with heap := h', toks := tk }) At ⟨.int (ks.length : Nat), H, I1.tok _, ⟨_, rfl⟩, q⟩
  | true =>
    refine Kd.sorted (ν := ν) (s := { s with heap := h', toks := tk }) (enc := enc) (I.ok.hd hc) At hr ha hk hd (by omega) fun s' p out c ks' k1 g1 o1 hp hg' pm hsz he => ?_
    have hks' : ks'.length = ks.length := pm.length_eq
    have q := q ks' (pm.nodup_iff.mpr hnd) fun x => by rw [pm.mem_iff, hks]
    have hpl : H p = none := I1.hok.fresh hp
    have hL : ks'.length ≤ sizeLine := by rw [hks', sizeLine_eq]; omega
    have rv : Vals ((ks'.mergeSort (PySem.W.dataLe false enc)).map g) out.toList := vals_each hg he
    have J : Inv X pins σ (upd H p (.lst ((ks'.mergeSort (PySem.W.dataLe false enc)).map g))) { s with heap := s'.heap, gens := s'.gens, drawn := s'.drawn, toks := s'.toks } :=
      Inv.call (s := { s with heap := h', toks := tk }) (ch := []) I1 (Un.laid k1 hp hpl) (I1.hok.laid k1 hp ⟨by rw [List.length_map, List.length_mergeSort]; exact hL, out.toList, c, rv, by rw [hg']⟩) (by rw [g1]; exact I1.bare) (fun _ z => nomatch z)
    have e : s' = { s with heap := s'.heap, gens := s'.gens, drawn := s'.drawn, toks := s'.toks } := by
      cases s'
      cases s
      cases o1
      rfl
    rw [e]
    exact ⟨.ref p, _, J, rfl, q p hpl hL⟩
theorem pe_sset {f : Bool} {nm : Str} {a : Expr} {ta : TE} {p p2 q pos : Pos} (hnm : nm = if f = true then "sorted" else "len") (hc : X.calm = true) (hu : X.A.units + 64 < cLine) (hg : Gl X nm) (hm : X.mg nm = none) (hg2 : Gl X "set") (hm2 : X.mg "set" = none) (ha : PE X a ta)
    (na : starEach [a] X.env = (false, eval a X.env) :: starEach [] X.env := by rfl) : PE X (.Call (.Name nm p) [.Call (.Name "set" p2) [a] [] q] [] pos) (tSset X.K f ta) := by
  refine ⟨fun pins s σ H Q I h => ?_⟩
  have hb : bootBuiltins nm = some (.builtin (if f = true then "sorted" else "len")) := by
    subst hnm
    cases f
    · exact PySem.boot_len
    · exact PyProof.Rows.boot_sorted
  refine Call_ (ld_blt I hg hm hb ?_ (by subst hnm; cases f <;> decide) (by subst hnm; cases f <;> decide))
  refine PyProof.Rows.callWith_builtin1 (PyProof.Rows.args_cons ?_ rfl) rfl rfl
  refine Call_ (ld_blt I hg2 hm2 PyProof.Rows.boot_set ?_)
  refine PyProof.Rows.callWith_type1 (PyProof.Rows.args_cons (thn (ha.run pins s σ H _ I h) fun v s1 ⟨x, H1, I1, r1, q1⟩ => PyProof.Rows.args_nil ?_) na) na rfl
  obtain ⟨l, vs, kk, rfl, hq, hl, hh, q1⟩ := q1
  cases r1
  rcases hh with ⟨is, rfl, hh⟩ | ⟨ss, rfl, hh⟩
  · refine wpAny_mono (set_tail (ν := kvI X.prog X.w) (g := V.int) (enc := PyData.int) (f := f) (fun k t => ⟨t, rfl⟩) (fun k v ⟨t, e⟩ => ⟨t, e⟩) (fun h k t => .int k t) (fun _ _ => rfl) (fun _ => ⟨nofun, nofun⟩) (fun _ => rfl) hc hu I1 hq (by simpa using hl) fun ks nd hks => ?_) (fun v s' z => PyProof.Rows.args_nil z) fun _ _ z => z
    obtain ⟨out, e1, e2, e3⟩ := sort_ints nd hks
    have q2 := q1 _ (hh out e2 e3)
    have el : out.length = ks.length := by rw [← e1, List.length_mergeSort]
    cases f
    · rw [if_neg (by decide)] at q2 ⊢
      rw [List.length_map, el] at q2
      exact q2
    · rw [if_pos rfl] at q2 ⊢
      intro p hp hL
      have := q2 p hp (by rw [List.length_map, el]; exact hL)
      rw [show (PySem.W.dataLe false PyData.int) = PySem.W.dataLe false fun b : Int => PyData.int b from rfl, e1]
      exact this
  · refine wpAny_mono (set_tail (ν := kvS X.prog X.w) (g := V.str) (enc := PyData.str) (f := f) (fun k t => ⟨t, rfl⟩) (fun k v ⟨t, e⟩ => ⟨t, e⟩) (fun h k t => .str k t) (fun _ _ => rfl) (fun _ => ⟨nofun, nofun⟩) (fun _ => rfl) hc hu I1 hq (by simpa using hl) fun ks nd hks => ?_) (fun v s' z => PyProof.Rows.args_nil z) fun _ _ z => z
    obtain ⟨out, e1, e2, e3⟩ := sort_strs nd hks
    have q2 := q1 _ (hh out e2 e3)
    have el : out.length = ks.length := by rw [← List.length_map (f := mkS), ← e1, List.length_mergeSort]
    cases f
    · rw [if_neg (by decide)] at q2 ⊢
      rw [List.length_map, List.length_map, el] at q2
      exact q2
    · rw [if_pos rfl] at q2 ⊢
      intro p hp hL
      have := q2 p hp (by rw [List.length_map, List.length_map, el]; exact hL)
      rw [show (PySem.W.dataLe false PyData.str) = PySem.W.dataLe false fun b : Str => PyData.str b from rfl, e1]
      exact this
end
end Pk

/-! More forms: tests, displays, subscripts, slices, calls, methods, isinstance. -/
namespace Pk
open PySem L2
section
variable {G : Gs} {Z : Zs G} {px : PxE} {cm : Bool} {cst : Nat → Nat} {Φ : Fs} {gv : Nat → D} {k : Nat} {C : Ct} {X : Cx}
theorem isTrue_plain_of {a : Expr} {env : PySem.Env} (h : plainT a = true) : ∀ whole, isTrue a env whole = (do let v ← whole; standAt a.pos; holding [v] (truthy v)) := by
  cases a <;> first | (intro _; rfl) | cases h
/-- a test that is its value's truth -/
theorem snt_plain (h : XOk Z px cm cst Φ gv k C X) {l : Lk} {w : Wp} {wt : Env → Mu → (Bool → Mu → Prop) → Prop} {c : Nat} (hp : ∀ pe, l pe = true → plainT pe = true) (ha : OkP Z X l w c)
    (hw : ∀ σ m Q, wt σ m Q → w σ m fun d m' => ∃ t, truD (rd m' d) = some t ∧ Q t m') : OkT Z X l wt c := by
  intro pe hl
  refine PT.of (pt_truth (ha pe hl) (isTrue_plain_of (hp pe hl))) ?_
  intro s H QV q
  obtain ⟨W, m, σ, Q, hw1, S, L, hn, kq⟩ := q
  refine ⟨W, m, σ, _, hw _ _ _ hw1, S, L, hn, fun d m1 v H1 W1 st1 S1 r q1 => ?_⟩
  obtain ⟨t, e, q1⟩ := q1
  exact ⟨t, tru_rd h.K S1 r e, kq t m1 H1 W1 st1 S1 q1⟩
theorem pw_of {op : BoolOp} {es : List Expr} {pos : Pos} {t : TT} (h : PT X (.BoolOp op es pos) t) : PW X (.BoolOp op es pos) t := ⟨fun _ pins s σ H Q I q => h.run pins s σ H Q I q⟩
theorem snt_and {a b : E} {la lb : Lk} (ha : OkT Z X la (fun σ m Q => wpT Φ gv cm a σ m Q (px.at σ)) (cE cst a)) (hb : OkT Z X lb (fun σ m Q => wpT Φ gv cm b σ m Q (px.at σ)) (cE cst b)) :
    OkT Z X (mAnd la lb) (fun σ m Q => wpT Φ gv cm (.and a b) σ m Q (px.at σ)) (cE cst a + cE cst b) := by
  have key : ∀ s H QV, tT Z (fun σ m Q => wpT Φ gv cm (.and a b) σ m Q (px.at σ)) (cE cst a + cE cst b) s H QV → tAnd (tT Z (fun σ m Q => wpT Φ gv cm a σ m Q (px.at σ)) (cE cst a)) (tT Z (fun σ m Q => wpT Φ gv cm b σ m Q (px.at σ)) (cE cst b)) s H QV := by
    intro s H QV q
    obtain ⟨W, m, σ, Q, hw, S, L, hn, kq⟩ := q
    refine ⟨W, m, σ, _, hw, S, L, by omega, fun t m1 H1 W1 st1 S1 q1 => ?_⟩
    have n1 := st1.n
    cases t with
    | false => exact kq _ m1 H1 W1 (st1.weak (by omega)) S1 q1
    | true =>
      rw [if_pos rfl] at q1
      refine iteT ?_
      exact ⟨W1, m1, σ, _, q1, S1, L.mono st1.le, by omega, fun dy m2 H2 W2 st2 S2 q2 => kq _ m2 H2 W2 (Step.trans S1 st1 st2) S2 q2⟩
  intro pe hl
  unfold mAnd at hl
  split at hl
  · obtain ⟨h1, h2⟩ := Bool.and_eq_true_iff.mp hl
    split at h2
    · exact PT.of (pw_and (ha _ h1) (pw_and1 (hb _ h2))).pt key
    · exact PT.of (pw_and (ha _ h1) (pw_of (hb _ h2))).pt key
  · cases hl
theorem snt_or {a b : E} {la lb : Lk} (ha : OkT Z X la (fun σ m Q => wpT Φ gv cm a σ m Q (px.at σ)) (cE cst a)) (hb : OkT Z X lb (fun σ m Q => wpT Φ gv cm b σ m Q (px.at σ)) (cE cst b)) :
    OkT Z X (mOr la lb) (fun σ m Q => wpT Φ gv cm (.or a b) σ m Q (px.at σ)) (cE cst a + cE cst b) := by
  have key : ∀ s H QV, tT Z (fun σ m Q => wpT Φ gv cm (.or a b) σ m Q (px.at σ)) (cE cst a + cE cst b) s H QV → tOr (tT Z (fun σ m Q => wpT Φ gv cm a σ m Q (px.at σ)) (cE cst a)) (tT Z (fun σ m Q => wpT Φ gv cm b σ m Q (px.at σ)) (cE cst b)) s H QV := by
    intro s H QV q
    obtain ⟨W, m, σ, Q, hw, S, L, hn, kq⟩ := q
    refine ⟨W, m, σ, _, hw, S, L, by omega, fun t m1 H1 W1 st1 S1 q1 => ?_⟩
    have n1 := st1.n
    cases t with
    | true => exact kq _ m1 H1 W1 (st1.weak (by omega)) S1 q1
    | false =>
      rw [if_neg Bool.false_ne_true] at q1
      refine iteF ?_
      exact ⟨W1, m1, σ, _, q1, S1, L.mono st1.le, by omega, fun dy m2 H2 W2 st2 S2 q2 => kq _ m2 H2 W2 (Step.trans S1 st1 st2) S2 q2⟩
  intro pe hl
  unfold mOr at hl
  split at hl
  · obtain ⟨h1, h2⟩ := Bool.and_eq_true_iff.mp hl
    split at h2
    · exact PT.of (pw_or (ha _ h1) (pw_or1 (hb _ h2))).pt key
    · exact PT.of (pw_or (ha _ h1) (pw_of (hb _ h2))).pt key
  · cases hl
/-! ### argument lists -/
abbrev OkA {G : Gs} (Z : Zs G) (X : Cx) (l : List Expr → Bool) (w : Env → Mu → (List D → Mu → Prop) → Prop) (c : Nat) : Prop := ∀ pes, l pes = true → PA X pes (tA Z w c pes.length)
theorem sna_nil : OkA Z X (fun ps => ps.isEmpty) (fun σ m Q => wpEs Φ gv cm .nil σ m Q (px.at σ)) 0 := by
  intro pes hl
  cases pes with
  | nil =>
    refine PA.of pa_nil ?_
    intro s H QV q
    obtain ⟨W, m, σ, Q, hw, S, L, hn, kq⟩ := q
    exact kq [] m [] H W rfl (Step.refl ..) S .nil hw
  | cons _ _ => cases hl
theorem sna_cons {e : E} {r : Es} {le : Lk} {lr : List Expr → Bool} (he : OkP Z X le (fun σ m Q => wpE Φ gv cm e σ m Q (px.at σ)) (cE cst e)) (hr : OkA Z X lr (fun σ m Q => wpEs Φ gv cm r σ m Q (px.at σ)) (cEs cst r)) :
    OkA Z X (fun ps => match ps with
      | [] => false
      | p :: ps => notStar p && le p && lr ps) (fun σ m Q => wpEs Φ gv cm (.cons e r) σ m Q (px.at σ)) (cE cst e + cEs cst r) := by
  intro pes hl
  cases pes with
  | nil => cases hl
  | cons p ps =>
    have hl' : (notStar p && le p && lr ps) = true := hl
    simp only [Bool.and_eq_true] at hl'
    obtain ⟨⟨h1, h2⟩, h3⟩ := hl'
    refine PA.of (pa_cons (he _ h2) (hr _ h3) (star1 h1)) ?_
    intro s H QV q
    obtain ⟨W, m, σ, Q, hw, S, L, hn, kq⟩ := q
    refine ⟨W, m, σ, _, hw, S, L, by omega, fun d m1 v H1 W1 st1 S1 rv q1 => ?_⟩
    have n1 := st1.n
    refine ⟨W1, m1, σ, _, q1, S1, L.mono st1.le, by omega, fun ds m2 vs H2 W2 hz st2 S2 rs q2 => ?_⟩
    exact kq _ m2 _ H2 W2 (by simp [hz]) (Step.trans S1 st1 st2) S2 (.cons (Rep.mono st2.le _ rv) rs) q2
/-! ### displays -/
theorem snd_tup {es : Es} {l : List Expr → Bool} (h : OkA Z X l (fun σ m Q => wpEs Φ gv cm es σ m Q (px.at σ)) (cEs cst es)) :
    OkP Z X (mTup l) (fun σ m Q => wpE Φ gv cm (.tup es) σ m Q (px.at σ)) (cEs cst es) := by
  intro pe hl
  unfold mTup at hl
  split at hl
  · obtain ⟨h1, h2⟩ := Bool.and_eq_true_iff.mp hl
    refine PE.of (pe_tup (h _ h2)) ?_
    intro s H QV q
    obtain ⟨W, m, σ, Q, hw, S, L, hn, kq⟩ := q
    refine ⟨W, m, σ, _, hw, S, L, hn, fun ds m1 vs H1 W1 hz st1 S1 rs q1 => ?_⟩
    have hl : vs.length ≤ sizeLine := by
      rw [rs.length, hz]
      exact Nat.le_trans (of_decide_eq_true h1) (by decide)
    refine ⟨hl, fun p hp => ?_⟩
    have S' := S1.new (o := .tup vs) hp hl
    exact kq _ m1 _ _ _ ((Step.trans S1 st1 (Step.new (c := 0) S1 hp)).weak (by omega)) S' (.tup (xs := vs) (.inl (.inl upd_same)) (RepL.mono (le_new (S1.none hp).1) _ rs)) q1
  · cases hl
theorem snd_lst {es : Es} {l : List Expr → Bool} (h : OkA Z X l (fun σ m Q => wpEs Φ gv cm es σ m Q (px.at σ)) (cEs cst es)) :
    OkP Z X (mLst l) (fun σ m Q => wpE Φ gv cm (.lst es) σ m Q (px.at σ)) (cEs cst es) := by
  intro pe hl
  unfold mLst at hl
  split at hl
  · obtain ⟨h1, h2⟩ := Bool.and_eq_true_iff.mp hl
    refine PE.of (pe_lst (h _ h2)) ?_
    intro s H QV q
    obtain ⟨W, m, σ, Q, hw, S, L, hn, kq⟩ := q
    refine ⟨W, m, σ, _, hw, S, L, hn, fun ds m1 vs H1 W1 hz st1 S1 rs q1 => ?_⟩
    have hl : vs.length ≤ sizeLine := by
      rw [rs.length, hz]
      exact Nat.le_trans (of_decide_eq_true h1) (by decide)
    refine ⟨hl, fun p hp => ?_⟩
    have S' := S1.new (o := .lst vs) hp hl
    exact kq _ m1 _ _ _ ((Step.trans S1 st1 (Step.new (c := 0) S1 hp)).weak (by omega)) S' (.lst (xs := vs) upd_same (RepL.mono (le_new (S1.none hp).1) _ rs)) q1
  · cases hl
/-! ### subscripts, slices -/
theorem snd_ix (h : XOk Z px cm cst Φ gv k C X) {a b : E} {la lb : Lk} (ha : OkP Z X la (fun σ m Q => wpE Φ gv cm a σ m Q (px.at σ)) (cE cst a)) (hb : OkP Z X lb (fun σ m Q => wpE Φ gv cm b σ m Q (px.at σ)) (cE cst b)) :
    OkP Z X (mIx la lb) (fun σ m Q => wpE Φ gv cm (.ix a b) σ m Q (px.at σ)) (cE cst a + cE cst b) := by
  intro pe hl
  unfold mIx at hl
  split at hl
  · simp only [Bool.and_eq_true] at hl
    obtain ⟨⟨h1, h2⟩, h3⟩ := hl
    refine PE.of (pe_ix (ixOk (Z := Z) h.K) (ha _ h2) (hb _ h3) (plainIx_of h1)) ?_
    intro s H QV q
    obtain ⟨W, m, σ, Q, hw, S, L, hn, kq⟩ := q
    refine ⟨W, m, σ, _, hw, S, L, by omega, fun dx m1 vx H1 W1 st1 S1 rx q1 => ?_⟩
    have n1 := st1.n
    refine ⟨W1, m1, σ, _, q1, S1, L.mono st1.le, by omega, fun dy m2 vy H2 W2 st2 S2 ry q2 => ?_⟩
    exact ⟨W2, m2, dx, dy, _, q2, S2, Rep.mono st2.le _ rx, ry, fun d v r q => kq d m2 v H2 W2 (Step.trans S1 st1 st2) S2 r q⟩
  · cases hl
def tO {G : Gs} (Z : Zs G) (w : Env → Mu → (Option Int → Mu → Prop) → Prop) (c : Nat) : TO := fun s H QV => ∃ (W : Kn) (m : Mu) (σ : Env) (Q : Option Int → Mu → Prop), w σ m Q ∧ SRel Z W m H ∧ SlotR Z W σ s ∧ W.n + c ≤ Z.lim ∧
  ∀ d m' H' W', Step W m H W' m' H' c → SRel Z W' m' H' → Q d m' → QV d H'
theorem PO.of {X : Cx} {e : Option Expr} {t t' : TO} (h : PO X e t) (i : ∀ s H Q, t' s H Q → t s H Q) : PO X e t' := ⟨fun pins s σ H Q I q => h.run pins s σ H Q I (i _ _ _ q)⟩
abbrev OkO {G : Gs} (Z : Zs G) (X : Cx) (l : Option Expr → Bool) (w : Env → Mu → (Option Int → Mu → Prop) → Prop) (c : Nat) : Prop := ∀ pe, l pe = true → PO X pe (tO Z w c)
theorem sno_none : OkO Z X (fun p => p.isNone) (fun σ m Q => wpEo Φ gv cm .none σ m Q (px.at σ)) 0 := by
  intro pe hl
  cases pe with
  | none =>
    refine PO.of po_none ?_
    intro s H QV q
    obtain ⟨W, m, σ, Q, hw, S, L, hn, kq⟩ := q
    exact kq none m H W (Step.refl ..) S hw
  | some _ => cases hl
theorem sno_some {e : E} {le : Lk} (he : OkP Z X le (fun σ m Q => wpE Φ gv cm e σ m Q (px.at σ)) (cE cst e)) : OkO Z X (fun p => match p with
    | none => false
    | some p => le p) (fun σ m Q => wpEo Φ gv cm (.some e) σ m Q (px.at σ)) (cE cst e) := by
  intro pe hl
  cases pe with
  | none => cases hl
  | some p =>
    refine PO.of (po_some (he p hl)) ?_
    intro s H QV q
    obtain ⟨W, m, σ, Q, hw, S, L, hn, kq⟩ := q
    refine ⟨W, m, σ, _, hw, S, L, hn, fun d m1 v H1 W1 st1 S1 r q1 => ?_⟩
    cases d with
    | int i =>
      cases r
      exact ⟨i, rfl, kq _ m1 H1 W1 st1 S1 q1⟩
    | _ => exact q1.elim
def rS {G : Gs} (Z : Zs G) : V → Option Int → Option Int → Hp → VK → Prop := fun x lo hi H QV => ∃ (W : Kn) (m : Mu) (dx : D) (Q : D → Prop), slcR (rd m dx) lo hi Q ∧ SRel Z W m H ∧ Rep G W x dx ∧
  ∀ d v H' W', Step W m H W' m H' 0 → SRel Z W' m H' → Rep G W' v d → Q d → QV v H'
theorem cut_rep {W : Kn} {vs : List V} {ds : List D} (lo hi : Option Int) (h : RepL G W vs ds) : RepL G W (cutV vs lo hi) (cutG ds lo hi) := by
  unfold cutV cutG
  rw [h.length]
  exact (h.drop _).take _
theorem slcOk (hK : X.K = G.K) : L2.SlR X (rS Z) := by
  intro pins s σ H x v vl vu lo hi sl Q I rx hs pl pu h
  obtain ⟨W, m, dx, Qd, hr, S, r1, k⟩ := h
  unfold slcR at hr
  split at hr
  · rename_i ds e1
    obtain ⟨a, xs, rfl, h1, q1⟩ := rd_lst S r1 e1
    refine sl_list pins s σ H _ v vl vu lo hi sl Q I rx hs pl pu ⟨a, xs, rfl, .of h1, fun p hp => ?_⟩
    have hb := S.bd a xs (.inl h1)
    have hl : (cutV xs lo hi).length ≤ sizeLine := Nat.le_trans (cutV_length xs lo hi) hb
    have S' := S.new (o := .lst (cutV xs lo hi)) hp hl
    exact k _ _ _ _ (Step.new S hp) S' (.lst upd_same (RepL.mono (le_new (S.none hp).1) _ (cut_rep lo hi q1))) hr
  · rename_i t e1
    have e2 := rd_str r1 e1
    subst e2
    refine sl_str pins s σ H _ v vl vu lo hi sl Q I rx hs pl pu ⟨_, rfl, ?_, ?_⟩
    · show t.toArray.size ≤ sizeLine
      rw [← line_eq]
      simpa using hr.1
    · have e : cutS (⟨t.toArray⟩ : Str) lo hi = ⟨(cutG t lo hi).toArray⟩ := by
        unfold cutS cutG
        have : (⟨t.toArray⟩ : Str).length = t.length := by show t.toArray.size = _; simp
        rw [this]
      rw [e]
      exact k _ _ H W (Step.refl ..) S (.str _) hr.2
  · rename_i ds e1
    obtain ⟨a, xs, rfl, h1, q1⟩ := rd_tup S r1 e1
    have hb : xs.length ≤ sizeLine := by
      have h1' : SqT X.K H a xs := by rw [hK]; exact h1
      obtain ⟨_, _, _, z⟩ := I.tuple h1'
      exact z
    refine sl_tup pins s σ H _ v vl vu lo hi sl Q I rx hs pl pu ⟨a, xs, rfl, by rw [hK]; exact h1, ?_, fun p hp => ?_⟩
    · rw [q1.length]
      exact hr.1
    · have hl : (cutV xs lo hi).length ≤ sizeLine := Nat.le_trans (cutV_length xs lo hi) hb
      have S' := S.new (o := .tup (cutV xs lo hi)) hp hl
      exact k _ _ _ _ (Step.new S hp) S' (.tup (.inl (.inl upd_same)) (RepL.mono (le_new (S.none hp).1) _ (cut_rep lo hi q1))) hr.2
  · exact hr.elim
theorem snd_slc (h : XOk Z px cm cst Φ gv k C X) {a : E} {lo hi : Eo} {la : Lk} {ll lh : Option Expr → Bool} (ha : OkP Z X la (fun σ m Q => wpE Φ gv cm a σ m Q (px.at σ)) (cE cst a)) (hl : OkO Z X ll (fun σ m Q => wpEo Φ gv cm lo σ m Q (px.at σ)) (cEo cst lo)) (hh : OkO Z X lh (fun σ m Q => wpEo Φ gv cm hi σ m Q (px.at σ)) (cEo cst hi)) :
    OkP Z X (mSlc la ll lh) (fun σ m Q => wpE Φ gv cm (.slc a lo hi) σ m Q (px.at σ)) (cE cst a + cEo cst lo + cEo cst hi) := by
  intro pe hm
  unfold mSlc at hm
  split at hm
  · simp only [Bool.and_eq_true] at hm
    obtain ⟨⟨h1, h2⟩, h3⟩ := hm
    refine PE.of (pe_slice (slcOk (Z := Z) h.K) (ha _ h1) (hl _ h2) (hh _ h3)) ?_
    intro s H QV q
    obtain ⟨W, m, σ, Q, hw, S, L, hn, kq⟩ := q
    refine ⟨W, m, σ, _, hw, S, L, by omega, fun dx m1 vx H1 W1 st1 S1 rx q1 => ?_⟩
    have n1 := st1.n
    refine ⟨W1, m1, σ, _, q1, S1, L.mono st1.le, by omega, fun dl m2 H2 W2 st2 S2 q2 => ?_⟩
    have n2 := st2.n
    refine ⟨W2, m2, σ, _, q2, S2, (L.mono st1.le).mono st2.le, by omega, fun dh m3 H3 W3 st3 S3 q3 => ?_⟩
    exact ⟨W3, m3, dx, _, q3, S3, Rep.mono st3.le _ (Rep.mono st2.le _ rx), fun d v H' W' st4 S4 r q => kq d m3 v H' W' ((Step.trans S3 (Step.trans S2 (Step.trans S1 st1 st2) st3) st4).weak (by omega)) S4 r q⟩
  · cases hm
theorem snd_rev (h : XOk Z px cm cst Φ gv k C X) {a : E} {la : Lk} (ha : OkP Z X la (fun σ m Q => wpE Φ gv cm a σ m Q (px.at σ)) (cE cst a)) : OkP Z X (mRev la) (fun σ m Q => wpE Φ gv cm (.rev a) σ m Q (px.at σ)) (cE cst a) := by
  intro pe hm
  unfold mRev at hm
  split at hm
  · refine PE.of (pe_revL (ha _ hm)) ?_
    intro s H QV q
    obtain ⟨W, m, σ, Q, hw, S, L, hn, kq⟩ := q
    refine ⟨W, m, σ, _, hw, S, L, by omega, fun dx m1 vx H1 W1 st1 S1 rx q1 => ?_⟩
    split at q1
    · rename_i ds e1
      obtain ⟨a, xs, rfl, h1, q2⟩ := rd_lst S1 rx e1
      refine ⟨a, xs, rfl, .of h1, fun p hp => ?_⟩
      have hl : xs.reverse.length ≤ sizeLine := by
        rw [List.length_reverse]
        exact S1.bd a xs (.inl h1)
      have S' := S1.new (o := .lst xs.reverse) hp hl
      exact kq _ m1 _ _ _ ((Step.trans S1 st1 (Step.new (c := 0) S1 hp)).weak (by omega)) S' (.lst upd_same (RepL.mono (le_new (S1.none hp).1) _ q2.reverse)) q1
    · exact q1.elim
  · cases hm
/-! ### calls -/
theorem spD_of (h : XOk Z px cm cst Φ gv k C X) (hc : cm = true) {f : Nat} {W : Kn} {m : Mu} {σ : Env} {s : List (Option V)} {H : Hp} {vs : List V} {ds : List D} {Q : Pq} {QV : VK} (S : SRel Z W m H) (L : SlotR Z W σ s) (hn : W.n + cst f ≤ Z.lim) (rs : RepL G W vs ds) (q : Φ cm f ds m Q (px.at σ))
    (kq : ∀ d m' v H' W', Step W m H W' m' H' (cst f) → SRel Z W' m' H' → Rep G W' v d → Q d m' → QV v H') : spD G Φ cst f vs H QV (WE (wishX Z px) s) := by
  rw [hc] at q
  refine ⟨W, m, ds, Q, px.at σ, q, S.toSRel0, rs, Nat.le_trans hn h.lim, fun d m' v H' W' st S' r q => kq d m' v H' W' st (S.step S' st) r q, fun x m' H' W' cls d st S' rx q => ?_⟩
  have n1 := st.n
  exact ⟨x, W', m', σ, S.step S' st, L.mono st.le, by omega, rx, q⟩
theorem spN_of (h : XOk Z px cm cst Φ gv k C X) (hc : cm = false) {f : Nat} {W : Kn} {m : Mu} {σ : Env} {H : Hp} {vs : List V} {ds : List D} {Q : Pq} {QV : VK} {E : XK} {pn : List (Addr × Obj)} (S : SRel Z W m H) (hn : W.n + cst f ≤ Z.lim) (rs : ArgN G W H pn vs ds) (q : Φ cm f ds m Q (px.at σ))
    (kq : ∀ d m' v H' W', Step W m H W' m' H' (cst f) → SRel Z W' m' H' → Rep G W' v d → Q d m' → QV v H') : spN G Φ cst f pn vs H QV E := by
  rw [hc, h.nox hc] at q
  exact ⟨W, m, ds, Q, q, S.toSRel0, rs, Nat.le_trans hn h.lim, fun d m' v H' W' st S' r q => kq d m' v H' W' st (S.step S' st) r q⟩
/-- arguments, then constants that fill up -/
theorem call_imp (h : XOk Z px cm cst Φ gv k C X) (hc : cm = true) {f : Nat} {es : Es} {n : Nat} {cs : List Cn} {w : Wp} (hw : ∀ σ m Q, w σ m Q → wpEs Φ gv cm es σ m (fun ds m1 => Φ cm f (ds ++ cs.map Cn.d) m1 Q (px.at σ)) (px.at σ)) {s : List (Option V)} {H : Hp} {QV : VK} (q : tE Z w (cEs cst es + cst f) s H QV) :
    tCallSD (spD G Φ cst f) (cs.map Cn.v) (WE (wishX Z px)) (tA Z (fun σ m Q => wpEs Φ gv cm es σ m Q (px.at σ)) (cEs cst es) n) s H QV := by
  obtain ⟨W, m, σ, Q, q, S, L, hn, kq⟩ := q
  refine ⟨W, m, σ, _, hw _ _ _ q, S, L, by omega, fun ds m1 vs H1 W1 _ st1 S1 rs q1 => ?_⟩
  have n1 := st1.n
  exact spD_of h hc S1 (L.mono st1.le) (by omega) (rs.append (Cn.reps cs)) q1 fun d m2 v H2 W2 st2 S2 r q2 => kq d m2 v H2 W2 (Step.trans S1 st1 st2) S2 r q2
theorem callN_imp (h : XOk Z px cm cst Φ gv k C X) (hc : cm = false) {f : Nat} {es : Es} {n : Nat} {cs : List Cn} {w : Wp} (hw : ∀ σ m Q, w σ m Q → wpEs Φ gv cm es σ m (fun ds m1 => Φ cm f (ds ++ cs.map Cn.d) m1 Q (px.at σ)) (px.at σ)) {s : List (Option V)} {H : Hp} {QV : VK} (q : tE Z w (cEs cst es + cst f) s H QV) :
    tCallN (spN G Φ cst f) X.pn (cs.map Cn.v) (WE (wishX Z px)) (tA Z (fun σ m Q => wpEs Φ gv cm es σ m Q (px.at σ)) (cEs cst es) n) s H QV := by
  obtain ⟨W, m, σ, Q, q, S, L, hn, kq⟩ := q
  refine ⟨W, m, σ, _, hw _ _ _ q, S, L, by omega, fun ds m1 vs H1 W1 _ st1 S1 rs q1 => ?_⟩
  have n1 := st1.n
  exact spN_of h hc S1 (by omega) (.inl (rs.append (Cn.reps cs))) q1 fun d m2 v H2 W2 st2 S2 r q2 => kq d m2 v H2 W2 (Step.trans S1 st1 st2) S2 r q2
theorem bool_cases (b : Bool) : b = true ∨ b = false := by cases b <;> simp
/-- f(..) with constants behind -/
theorem call_any (h : XOk Z px cm cst Φ gv k C X) {f : Nat} {es : Es} {cs : List Cn} {w : Wp} {x : Str} {p : Expr} {pes : List Expr} {np pos : Pos} (hw : ∀ σ m Q, w σ m Q → wpEs Φ gv cm es σ m (fun ds m1 => Φ cm f (ds ++ cs.map Cn.d) m1 Q (px.at σ)) (px.at σ))
    (h1 : C.fnm f = some x) (h2 : glB C.sc x = true) (h3 : notStar p = true) (h4 : pes.all notStar = true) (hcs : cs = [] ∨ (0 < cs.length ∧ cs.length ≤ (C.dfl f).length ∧ (C.dfl f).drop ((C.dfl f).length - cs.length) = cs))
    (ha : PA X (p :: pes) (tA Z (fun σ m Q => wpEs Φ gv cm es σ m Q (px.at σ)) (cEs cst es) (p :: pes).length)) : PE X (.Call (.Name x np) (p :: pes) [] pos) (tE Z w (cEs cst es + cst f)) := by
  obtain ⟨g1, g2⟩ := gl_of h h2
  rcases bool_cases cm with hc | hc
  · obtain ⟨fa, fd, ps, q1, q2, q3, q4, q5⟩ := h.call f x h1
    have hb : ∃ us, Vals (cs.map Cn.v) us ∧ Binds X.K fd ps us := by
      rcases hcs with rfl | ⟨c1, c2, c3⟩
      · exact ⟨[], .nil, q4⟩
      · obtain ⟨us, v1, v2⟩ := q5 ((C.dfl f).length - cs.length) (by omega)
        rw [c3] at v1
        exact ⟨us, v1, v2⟩
    obtain ⟨us, v1, v2⟩ := hb
    exact PE.of (pe_callSD q3 (h.room hc) g1 q1 q2 v2 v1 (passAt h.tk) ha g2 (star1 h3) (star_plain h4)) fun s H QV q => call_imp h hc hw q
  · obtain ⟨fa, fd, ps, q1, q2, q3, q4, q5⟩ := h.callN f x h1
    have hb : ∃ us, Vals (cs.map Cn.v) us ∧ Binds X.K fd ps us := by
      rcases hcs with rfl | ⟨c1, c2, c3⟩
      · exact ⟨[], .nil, q4⟩
      · obtain ⟨us, v1, v2⟩ := q5 ((C.dfl f).length - cs.length) (by omega)
        rw [c3] at v1
        exact ⟨us, v1, v2⟩
    obtain ⟨us, v1, v2⟩ := hb
    exact PE.of (pe_callN q3 h.rooH g1 q1 q2 v2 v1 (passAt h.tk) ha g2 (star1 h3) (star_plain h4)) fun s H QV q => callN_imp h hc hw q
theorem nil_app (ds : List D) : ds ++ ([] : List Cn).map Cn.d = ds := List.append_nil ds
theorem snd_call (h : XOk Z px cm cst Φ gv k C X) (f : Nat) {es : Es} {l : List Expr → Bool} (h0 : l [] = false) (he : OkA Z X l (fun σ m Q => wpEs Φ gv cm es σ m Q (px.at σ)) (cEs cst es)) :
    OkP Z X (mCall C f l) (fun σ m Q => wpE Φ gv cm (.call f es) σ m Q (px.at σ)) (cEs cst es + cst f) := by
  intro pe hm
  unfold mCall at hm
  split at hm
  · simp only [Bool.and_eq_true, decide_eq_true_eq] at hm
    obtain ⟨⟨⟨⟨h1, h2⟩, h3⟩, h4⟩, h5⟩ := hm
    refine call_any h (cs := []) (fun σ m Q q => ?_) h1 h2 h3 h4 (.inl rfl) (he _ h5)
    simp only [nil_app]
    exact q
  · rw [h0] at hm
    simp at hm
  · cases hm
theorem snd_calld (h : XOk Z px cm cst Φ gv k C X) (f : Nat) (cs : List Cn) {es : Es} {l : List Expr → Bool} (he : OkA Z X l (fun σ m Q => wpEs Φ gv cm es σ m Q (px.at σ)) (cEs cst es)) :
    OkP Z X (mCallD C f l cs) (fun σ m Q => wpE Φ gv cm (.calld f es cs) σ m Q (px.at σ)) (cEs cst es + cst f) := by
  intro pe hm
  unfold mCallD at hm
  split at hm
  · simp only [Bool.and_eq_true, decide_eq_true_eq] at hm
    obtain ⟨⟨⟨⟨⟨h1, h2⟩, h3⟩, h4⟩, h5⟩, c⟩ := hm
    exact call_any h (fun σ m Q q => q) h1 h2 h3 h4 (.inr c) (he _ h5)
  · cases hm
theorem snd_call0 (h : XOk Z px cm cst Φ gv k C X) (f : Nat) : OkP Z X (mCall C f fun ps => ps.isEmpty) (fun σ m Q => wpE Φ gv cm (.call f .nil) σ m Q (px.at σ)) (0 + cst f) := by
  intro pe hm
  unfold mCall at hm
  split at hm
  · simp at hm
  · rename_i x _ _
    simp only [Bool.and_eq_true, decide_eq_true_eq] at hm
    obtain ⟨⟨h1, h2⟩, h5⟩ := hm
    obtain ⟨g1, g2⟩ := gl_of h h2
    rcases bool_cases cm with hc | hc
    · obtain ⟨fa, fd, ps, q1, q2, q3, q4, _⟩ := h.call f x h1
      refine PE.of (pe_callS0 q3 (h.room hc) g1 q1 q2 q4 .nil (passAt h.tk) g2) fun s H QV q => ?_
      obtain ⟨W, m, σ, Q, hw, S, L, hn, kq⟩ := q
      exact spD_of h hc S L (by omega) .nil hw fun d m2 v H2 W2 st2 S2 r q2 => kq d m2 v H2 W2 (st2.weak (by omega)) S2 r q2
    · obtain ⟨fa, fd, ps, q1, q2, q3, q4, _⟩ := h.callN f x h1
      refine PE.of (pe_callN0 q3 h.rooH g1 q1 q2 q4 .nil (passAt h.tk) g2) fun s H QV q => ?_
      obtain ⟨W, m, σ, Q, hw, S, L, hn, kq⟩ := q
      exact spN_of (E := WE (wishX Z px) s) h hc S (by omega) (.inl .nil) hw fun d m2 v H2 W2 st2 S2 r q2 => kq d m2 v H2 W2 (st2.weak (by omega)) S2 r q2
  · cases hm
/-! ### built-ins, methods of texts, isinstance -/
theorem biB (f : Bi) : (∃ id, biV f = .builtin id ∧ bootBuiltins (biN f) = some (.builtin id)) ∨ ∃ id, biV f = .type id ∧ bootBuiltins (biN f) = some (.type id) := by
  cases f
  · exact .inl ⟨_, rfl, by decide +kernel⟩
  · exact .inl ⟨_, rfl, by decide +kernel⟩
  · exact .inl ⟨_, rfl, by decide +kernel⟩
  · exact .inl ⟨_, rfl, by decide +kernel⟩
  · exact .inl ⟨_, rfl, by decide +kernel⟩
  · exact .inl ⟨_, rfl, by decide +kernel⟩
  · exact .inl ⟨_, rfl, by decide +kernel⟩
  · exact .inl ⟨_, rfl, by decide +kernel⟩
  · exact .inr ⟨_, rfl, by decide +kernel⟩
  · exact .inr ⟨_, rfl, by decide +kernel⟩
  · exact .inr ⟨_, rfl, by decide +kernel⟩
  · exact .inr ⟨_, rfl, by decide +kernel⟩
  · exact .inl ⟨_, rfl, by decide +kernel⟩
theorem biNm (f : Bi) : biN f ≠ "__name__" := by cases f <;> decide
theorem snd_bi (h : XOk Z px cm cst Φ gv k C X) (f : Bi) {es : Es} {l : List Expr → Bool} (he : OkA Z X l (fun σ m Q => wpEs Φ gv cm es σ m Q (px.at σ)) (cEs cst es)) :
    OkP Z X (mBi C f l) (fun σ m Q => wpE Φ gv cm (.bi f es) σ m Q (px.at σ)) (cEs cst es) := by
  have key : ∀ n s H QV, tE Z (fun σ m Q => wpE Φ gv cm (.bi f es) σ m Q (px.at σ)) (cEs cst es) s H QV → tCB (rB Z f) (tA Z (fun σ m Q => wpEs Φ gv cm es σ m Q (px.at σ)) (cEs cst es) n) s H QV := by
    intro n s H QV q
    obtain ⟨W, m, σ, Q, hw, S, L, hn, kq⟩ := q
    refine ⟨W, m, σ, _, hw.2, S, L, by omega, fun ds m1 vs H1 W1 _ st1 S1 rs q1 => ?_⟩
    exact ⟨W1, m1, ds, _, q1, S1, rs, fun d v H' W' st2 S2 r q2 => kq d m1 v H' W' ((Step.trans S1 st1 st2).weak (by omega)) S2 r q2⟩
  intro pe hm
  rcases bool_cases (biCalm f && !cm) with hz | hz
  · refine ⟨fun pins s σ H QV I q => ?_⟩
    obtain ⟨W, m, σ, Q, hw, S, L, hn, kq⟩ := q
    have := hw.1
    rw [hz] at this
    cases this
  have hcm : biCalm f = true → X.calm = true := fun e => h.calm (by
    rw [e] at hz
    simpa using hz)
  unfold mBi at hm
  split at hm
  · simp only [Bool.and_eq_true, decide_eq_true_eq] at hm
    obtain ⟨⟨⟨⟨h1, h2⟩, h3⟩, h4⟩, h5⟩ := hm
    subst h1
    obtain ⟨g1, g2, g3⟩ := bl_of h h2
    have ok := biOk (Z := Z) h.K h.units f hcm
    rcases biB f with ⟨id, e1, e2⟩ | ⟨id, e1, e2⟩
    · rw [e1] at ok
      exact PE.of (pe_callB ok g1 g3 e2 (he _ h5) (biNm f) g2 (star1 h3) (star_plain h4)) (key _)
    · rw [e1] at ok
      exact PE.of (pe_callTy ok g1 g3 e2 (he _ h5) (biNm f) g2 (star1 h3) (star_plain h4)) (key _)
  · cases hm
theorem join_eq (sep : List Nat) : ∀ ss : List (List Nat), Txt.join (mkS sep) (ss.map mkS) = mkS (joinS sep ss) := by
  intro ss
  rw [TL.join_eq]
  induction ss with
  | nil => rfl
  | cons x r ih =>
    cases r with
    | nil => rfl
    | cons y r =>
      show mkS x ++ mkS sep ++ Str.join (mkS sep) ((y :: r).map mkS) = mkS (x ++ sep ++ joinS sep (y :: r))
      rw [ih]
      show (⟨x.toArray ++ sep.toArray ++ (joinS sep (y :: r)).toArray⟩ : Str) = ⟨(x ++ sep ++ joinS sep (y :: r)).toArray⟩
      simp
theorem joinLen_eq (n : Nat) : ∀ ss : List (List Nat), ((ss.map mkS).map (·.length)).sum + (ss.map mkS).length * n = joinLen n ss
  | [] => by simp [joinLen]
  | x :: r => by
    have ih := joinLen_eq n r
    have e : (mkS x).length = x.length := by show x.toArray.size = _; simp
    simp only [List.map_cons, List.sum_cons, List.length_cons, joinLen, e, ← ih, Nat.succ_mul]
    omega
def noStrCall (a : Expr) : Prop := ∀ name env, attributeBase a name env (eval a env) = eval a env
theorem attr_of {a : Expr} (h : notCall a = true) : noStrCall a := by
  cases a <;> first | (intro _ _; rfl) | cases h
def rM {G : Gs} (Z : Zs G) (f : Sm) : V → List V → Hp → VK → Prop := fun x vs H QV => ∃ (W : Kn) (m : Mu) (dx : D) (ds : List D) (Q : D → Prop), smR f m dx ds Q ∧ SRel Z W m H ∧ Rep G W x dx ∧ RepL G W vs ds ∧
  ∀ d v H' W', Step W m H W' m H' 0 → SRel Z W' m H' → Rep G W' v d → Q d → QV v H'
def smId : Sm → String
  | .join => "str.join" | .split => "str.split" | .index => "str.index" | .upper => "str.upper"
theorem strs_text {W : Kn} : ∀ xs : List Str, RepL G W (xs.map V.str) ((xs.map fun x => x.cps.toList).map D.str)
  | [] => .nil
  | x :: r => by
    refine .cons ?_ (strs_text r)
    have q : Rep G W (.str ⟨x.cps.toList.toArray⟩) (.str x.cps.toList) := .str _
    rw [Array.toArray_toList] at q
    exact q
theorem split_len (t u : List Nat) : (Txt.split (mkS t) (mkS u)).length ≤ t.length + 2 := by
  have := PyProof.Rows.split_le (mkS t) (mkS u)
  have e : (mkS t).length = t.length := by show t.toArray.size = _; simp
  rw [e] at this
  exact this
theorem smOk (hK : X.K = G.K) (f : Sm) : MtR X (smId f) (rM Z f) := by
  intro pins s σ H x vs v us Q I rx rs h
  obtain ⟨W, m, dx, ds, Qd, hr, S, r1, rl, k⟩ := h
  unfold smR at hr
  split at hr
  · rename_i sep y
    cases r1
    obtain ⟨w, rfl, r2⟩ := repL1 rl
    split at hr
    · rename_i es e
      obtain ⟨a, xs, rfl, h1, q1⟩ := rd_lst S r2 e
      obtain ⟨ss, e2, e3, q⟩ := hr
      have e4 := strs_rep q1 e2
      subst e4
      refine mt_join pins s σ H _ _ v us Q I rx rs ⟨_, a, ss.map mkS, rfl, rfl, .inl (.of h1), ?_, ?_⟩
      · have e5 : (⟨sep.toArray⟩ : Str).length = sep.length := by show sep.toArray.size = _; simp
        rw [e5, joinLen_eq]
        exact e3
      · have := join_eq sep ss
        unfold mkS at this
        show Q (.str (Txt.join (mkS sep) (ss.map mkS))) H
        rw [join_eq]
        exact k _ _ H W (Step.refl ..) S (.str _) q
    · exact hr.elim
  · rename_i t u
    cases r1
    obtain ⟨w, rfl, r2⟩ := repL1 rl
    cases r2
    obtain ⟨⟨h1, h2⟩, q⟩ := hr
    refine mt_split pins s σ H _ _ v us Q I rx rs ⟨mkS t, mkS u, rfl, rfl, ?_, ?_, fun p hp => ?_⟩
    · show (u.toArray.size == 0) = false
      cases u with
      | nil => exact absurd rfl h1
      | cons _ _ => simp
    · show t.toArray.size + 2 ≤ sizeLine
      rw [← line_eq]
      simpa using h2
    · have hl : (Txt.split (mkS t) (mkS u)).length ≤ sizeLine := by
        have := split_len t u
        rw [← line_eq]
        omega
      have S' := S.new (o := .lst ((Txt.split (mkS t) (mkS u)).map V.str)) hp (by show (List.map _ _).length ≤ _; rw [List.length_map]; exact hl)
      refine k _ _ _ _ (Step.new S hp) S' (.lst upd_same ?_) q
      exact strs_text _
  · rename_i t u
    cases r1
    obtain ⟨w, rfl, r2⟩ := repL1 rl
    cases r2
    obtain ⟨i, rest, e, q⟩ := hr
    refine mt_sindex pins s σ H _ _ v us Q I rx rs ⟨_, _, i, rest, rfl, rfl, ?_, k _ _ H W (Step.refl ..) S (.int _) q⟩
    have : (⟨t.toArray⟩ : Str).length = t.length := by show t.toArray.size = _; simp
    rw [this]
    exact e
  · exact hr.elim
theorem snd_sm (h : XOk Z px cm cst Φ gv k C X) (f : Sm) {a e : E} {la : Lk} {le : Lk} (ha : OkP Z X la (fun σ m Q => wpE Φ gv cm a σ m Q (px.at σ)) (cE cst a)) (he : OkP Z X le (fun σ m Q => wpE Φ gv cm e σ m Q (px.at σ)) (cE cst e)) :
    OkP Z X (mSm f la le) (fun σ m Q => wpE Φ gv cm (.sm f a e) σ m Q (px.at σ)) (cE cst a + cE cst e) := by
  intro pe hm
  unfold mSm at hm
  split at hm
  · simp only [Bool.and_eq_true, decide_eq_true_eq] at hm
    obtain ⟨⟨⟨⟨⟨h1, h2⟩, h3⟩, h4⟩, h5⟩, h6⟩ := hm
    subst h1
    have key : ∀ s H QV, tE Z (fun σ m Q => wpE Φ gv cm (.sm f a e) σ m Q (px.at σ)) (cE cst a + cE cst e) s H QV → tM1 (rM Z f) (tE Z (fun σ m Q => wpE Φ gv cm a σ m Q (px.at σ)) (cE cst a)) (tE Z (fun σ m Q => wpE Φ gv cm e σ m Q (px.at σ)) (cE cst e)) s H QV := by
      intro s H QV q
      obtain ⟨W, m, σ, Q, hw, S, L, hn, kq⟩ := q
      refine ⟨W, m, σ, _, hw, S, L, by omega, fun dx m1 vx H1 W1 st1 S1 rx q1 => ?_⟩
      have n1 := st1.n
      obtain ⟨e1, q1⟩ := q1
      cases dx <;> first | (exact e1.elim; done) | skip
      cases rx
      refine ⟨⟨_, rfl⟩, W1, m1, σ, _, q1, S1, L.mono st1.le, by omega, fun dy m2 vy H2 W2 st2 S2 ry q2 => ?_⟩
      exact ⟨W2, m2, _, [dy], _, q2, S2, .str _, .cons ry .nil, fun d v H' W' st3 S3 r q => kq d m2 v H' W' ((Step.trans S2 (Step.trans S1 st1 st2) st3).weak (by omega)) S3 r q⟩
    have hline := beq_iff_eq.mpr h2
    cases f
    · exact PE.of (pe_m1 F.slot_str_join F.type_str_join (smOk (Z := Z) h.K .join) (ha _ h5) (he _ h6) (star1 h4) (attr_of h3 _ _) hline) key
    · exact PE.of (pe_m1 F.slot_str_split F.type_str_split (smOk (Z := Z) h.K .split) (ha _ h5) (he _ h6) (star1 h4) (attr_of h3 _ _) hline) key
    · exact PE.of (pe_m1 F.slot_str_index F.type_str_index (smOk (Z := Z) h.K .index) (ha _ h5) (he _ h6) (star1 h4) (attr_of h3 _ _) hline) key
    · exact PE.of (pe_m1 F.slot_str_upper F.type_str_upper (smOk (Z := Z) h.K .upper) (ha _ h5) (he _ h6) (star1 h4) (attr_of h3 _ _) hline) key
  · cases hm
theorem snd_up {a : E} {la : Lk} (ha : OkP Z X la (fun σ m Q => wpE Φ gv cm a σ m Q (px.at σ)) (cE cst a)) : OkP Z X (mUp la) (fun σ m Q => wpE Φ gv cm (.up a) σ m Q (px.at σ)) (cE cst a) := by
  intro pe hm
  unfold mUp at hm
  split at hm
  · simp only [Bool.and_eq_true, decide_eq_true_eq] at hm
    obtain ⟨⟨⟨h1, h2⟩, h3⟩, h4⟩ := hm
    subst h1
    refine PE.of (pe_upper (ha _ h4) (attr_of h3 _ _) (beq_iff_eq.mpr h2)) ?_
    intro s H QV q
    obtain ⟨W, m, σ, Q, hw, S, L, hn, kq⟩ := q
    refine ⟨W, m, σ, _, hw, S, L, hn, fun dx m1 vx H1 W1 st1 S1 rx q1 => ?_⟩
    split at q1
    · rename_i s
      cases rx
      have r : Rep G W1 (.str (PySem.Txt.upper ⟨s.toArray⟩)) (.str (upS s)) := .str (upS s)
      exact ⟨⟨_, rfl⟩, _, rfl, rfl, by show s.toArray.size ≤ 5592405; simpa using q1.1, kq _ m1 _ H1 W1 st1 S1 r q1.2⟩
    · exact q1.elim
  · cases hm
/-! ### isinstance -/
def tyNm : D → String
  | .non => "NoneType" | .bl _ => "bool" | .int _ => "int" | .str _ => "str" | .tup _ => "tuple" | .lst _ => "list"
  | _ => ""
def tySt : Ty → String
  | .int => "int" | .bool => "bool" | .str => "str" | .tuple => "tuple" | .list => "list"
def isKnown : D → Bool
  | .non | .bl _ | .int _ | .str _ | .tup _ | .lst _ => true
  | _ => false
theorem kit_tab : ∀ d ∈ [D.non, .bl true, .int 0, .str [], .tup [], .lst []], ∀ t ∈ [Ty.int, .bool, .str, .tuple, .list], kitB (tyNm d) (tySt t) = some (isTy d t) := by decide +kernel
theorem ty_mem (t : Ty) : t ∈ [Ty.int, .bool, .str, .tuple, .list] := by cases t <;> decide
theorem kit_is (K : PySem.W.Frag) {d : D} (h : isKnown d = true) (t : Ty) : PySem.W.kitOne K (.type (tyNm d)) (.type (tySt t)) = some (isTy d t) := by
  cases d with
  | non => exact kit_ty (kit_tab .non (by simp) t (ty_mem t))
  | bl b => exact (kit_ty (kit_tab (.bl true) (by simp) t (ty_mem t))).trans (by cases t <;> rfl)
  | int b => exact (kit_ty (kit_tab (.int 0) (by simp) t (ty_mem t))).trans (by cases t <;> rfl)
  | str b => exact (kit_ty (kit_tab (.str []) (by simp) t (ty_mem t))).trans (by cases t <;> rfl)
  | tup b => exact (kit_ty (kit_tab (.tup []) (by simp) t (ty_mem t))).trans (by cases t <;> rfl)
  | lst b => exact (kit_ty (kit_tab (.lst []) (by simp) t (ty_mem t))).trans (by cases t <;> rfl)
  | _ => cases h
theorem tyx_rd {W : Kn} {m : Mu} {H : Hp} (hK : X.K = G.K) (S : SRel Z W m H) {x : V} {d : D} (r : Rep G W x d) (h : isKnown (rd m d) = true) : TyX X.K H x (.type (tyNm (rd m d))) := by
  generalize e : rd m d = y at h
  cases y with
  | non => rw [rd_non r e]; exact .base .non
  | bl b => rw [rd_bl r e]; exact .base (.bl _)
  | int b => rw [rd_int r e]; exact .base (.int _)
  | str b => rw [rd_str r e]; exact .base (.str _)
  | tup ds =>
    obtain ⟨a, xs, rfl, h1, h2⟩ := rd_tup S r e
    rcases h1 with (h1 | ⟨o, h1⟩) | h1
    · exact .base (.tup h1)
    · exact .fTuple h1
    · obtain ⟨o, its, n, q1, q2, _⟩ := h1
      exact .kTuple (by rw [hK]; exact q1) q2
  | lst ds =>
    obtain ⟨a, xs, rfl, h1, h2⟩ := rd_lst S r e
    exact .base (.lst h1)
  | _ => cases h
theorem tyB (t : Ty) : bootBuiltins (tyN t) = some (.type (tySt t)) := by
  cases t
  · exact (by decide +kernel : bootBuiltins "int" = some (.type "int"))
  · exact (by decide +kernel : bootBuiltins "bool" = some (.type "bool"))
  · exact (by decide +kernel : bootBuiltins "str" = some (.type "str"))
  · exact (by decide +kernel : bootBuiltins "tuple" = some (.type "tuple"))
  · exact (by decide +kernel : bootBuiltins "list" = some (.type "list"))
theorem tyNm_ne (t : Ty) : tyN t ≠ "__name__" := by cases t <;> decide
def tCs : List Ty → TA
  | [] => tNil
  | t :: ts => tCons (tC (.ty (tySt t))) (tCs ts)
theorem pa_tys (h : XOk Z px cm cst Φ gv k C X) : ∀ (ts : List Ty) (pts : List Expr), tysB C ts pts = true → PA X pts (tCs ts)
  | [], [], _ => pa_nil
  | [], _ :: _, e => by cases e
  | _ :: _, [], e => by cases e
  | t :: ts, p :: ps, e => by
    cases p <;> first
      | (cases e; done)
      | skip
    rename_i x pos
    have e' : (decide (x = tyN t) && blB C x && tysB C ts ps) = true := e
    simp only [Bool.and_eq_true, decide_eq_true_eq] at e'
    obtain ⟨⟨h1, h2⟩, h3⟩ := e'
    subst h1
    obtain ⟨g1, g2, g3⟩ := bl_of h h2
    exact pa_cons (pe_bltn g1 g3 (tyB t) rfl (tyNm_ne t) g2) (pa_tys h ts ps h3)
theorem tCs_eq : ∀ (ts : List Ty) (s : List (Option V)) (H : Hp) (Q : List V → Hp → Prop), Q (ts.map fun t => V.ty (tySt t)) H → tCs ts s H Q
  | [], _, _, _, q => q
  | t :: ts, s, H, Q, q => tCs_eq ts s H _ q
theorem kit_any (K : PySem.W.Frag) {d : D} (h : isKnown d = true) : ∀ ts : List Ty, PySem.W.kitAny K (.type (tyNm d)) (ts.map fun t => Value.type (tySt t)) = some (ts.any (isTy d))
  | [] => kitAny_nil
  | t :: ts => by
    rw [List.map_cons, List.any_cons]
    refine kitAny_cons (kit_is K h t) (fun e => ?_) fun e => by rw [e]; rfl
    rw [e, Bool.false_or]
    exact kit_any K h ts
theorem cls_all : ∀ ts : List Ty, Paired ClsV (ts.map fun t => V.ty (tySt t)) (ts.map fun t => Value.type (tySt t))
  | [] => .nil
  | t :: ts => .cons (.ty _) (cls_all ts)
theorem isi_known {x : D} {P : Prop} (q : match x with
    | .non | .bl _ | .int _ | .str _ | .tup _ | .lst _ => P
    | _ => False) : isKnown x = true ∧ P := by
  cases x <;> first | exact ⟨rfl, q⟩ | exact q.elim
theorem snd_isi (h : XOk Z px cm cst Φ gv k C X) {a : E} (ts : List Ty) {la : Lk} (ha : OkP Z X la (fun σ m Q => wpE Φ gv cm a σ m Q (px.at σ)) (cE cst a)) :
    OkP Z X (mIsi C la ts) (fun σ m Q => wpE Φ gv cm (.isi a ts) σ m Q (px.at σ)) (cE cst a) := by
  intro pe hm
  unfold mIsi at hm
  split at hm
  · simp only [Bool.and_eq_true, decide_eq_true_eq] at hm
    obtain ⟨⟨⟨⟨⟨h1, h2⟩, h3⟩, h4⟩, hz⟩, h5⟩ := hm
    subst h1
    obtain ⟨g1, g2, g3⟩ := bl_of h h2
    have hz' : ts.length ≤ sizeLine := Nat.le_trans hz (by decide)
    refine PE.of (pe_callB call_isiT g1 g3 PyProof.Rows.boot_isinstance (pa_cons (ha _ h4) (pa_cons (pe_tup (pa_tys h ts _ h5)) pa_nil) (star1 h3)) (by decide) g2 (star1 h3)) ?_
    intro s H QV q
    obtain ⟨W, m, σ, Q, hw, S, L, hn, kq⟩ := q
    refine ⟨W, m, σ, _, hw, S, L, by omega, fun dx m1 vx H1 W1 st1 S1 rx q1 => ?_⟩
    obtain ⟨kn, q1⟩ := isi_known q1
    refine tCs_eq ts _ _ _ ?_
    refine ⟨?_, fun p hp => ?_⟩
    · have : (ts.map fun t => V.ty (tySt t)).length = ts.length := List.length_map _
      rw [this]
      exact hz'
    · have S' := S1.new (o := .tup (ts.map fun t => V.ty (tySt t))) hp (by
        show (ts.map fun t => V.ty (tySt t)).length ≤ sizeLine
        rw [List.length_map]
        exact hz')
      have rx' := Rep.mono (le_new (o := .tup (ts.map fun t => V.ty (tySt t))) (S1.none hp).1) _ rx
      refine ⟨vx, p, _, _, _, _, rfl, upd_same, cls_all ts, tyx_rd h.K S' rx' kn, kit_any X.K kn ts, ?_⟩
      exact kq _ m1 _ _ _ ((Step.trans S1 st1 (Step.new (c := 0) S1 hp)).weak (by omega)) S' (.bl _) q1
  · simp only [Bool.and_eq_true, decide_eq_true_eq] at hm
    obtain ⟨⟨⟨⟨h1, h2⟩, h3⟩, h4⟩, h5⟩ := hm
    subst h1
    obtain ⟨g1, g2, g3⟩ := bl_of h h2
    cases ts with
    | nil => cases h5
    | cons t ts =>
      have h5' : (decide (_ = tyN t) && blB C _ && tysB C ts []) = true := h5
      simp only [Bool.and_eq_true, decide_eq_true_eq] at h5'
      obtain ⟨⟨k1, k2⟩, k3⟩ := h5'
      cases ts with
      | cons _ _ => cases k3
      | nil =>
        refine PE.of (pe_callB call_isi g1 g3 PyProof.Rows.boot_isinstance (pa_cons (ha _ h4) (pa_tys h [t] _ h5) (star1 h3)) (by decide) g2 (star1 h3)) ?_
        intro s H QV q
        obtain ⟨W, m, σ, Q, hw, S, L, hn, kq⟩ := q
        refine ⟨W, m, σ, _, hw, S, L, by omega, fun dx m1 vx H1 W1 st1 S1 rx q1 => ?_⟩
        obtain ⟨kn, q1⟩ := isi_known q1
        refine tCs_eq [t] _ _ _ ?_
        refine ⟨vx, _, _, _, _, rfl, .ty _, tyx_rd h.K S1 rx kn, kit_is X.K kn t, ?_⟩
        have e : [t].any (isTy (rd m1 dx)) = isTy (rd m1 dx) t := by simp
        rw [e] at q1
        exact kq _ m1 _ H1 W1 st1 S1 (.bl _) q1
  · cases hm
end
end Pk

/-! Targets, what a for walks, comprehensions. -/
namespace Pk
open PySem L2
/-! ### targets -/
theorem set_wipe {s : List (Option V)} {i : Nat} {v : Option V} : ∀ {own : List Nat}, i ∈ own → L2.wipe (s.set i v) own = L2.wipe s own
  | [], h => by cases h
  | j :: r, h => by
    show (L2.wipe (s.set i v) r).set j none = (L2.wipe s r).set j none
    by_cases e : i ∈ r
    · rw [set_wipe e]
    · have ej : j = i := by
        rcases List.mem_cons.mp h with q | q
        · exact q.symm
        · exact absurd q e
      subst ej
      have key : ∀ (l : List Nat), j ∉ l → L2.wipe (s.set j v) l = (L2.wipe s l).set j v := by
        intro l
        induction l with
        | nil => intro _; rfl
        | cons a l ih =>
          intro hn
          have h1 : j ≠ a := fun q => hn (q ▸ List.mem_cons_self ..)
          have h2 : j ∉ l := fun q => hn (List.mem_cons_of_mem _ q)
          show (L2.wipe (s.set j v) l).set a none = ((L2.wipe s l).set a none).set j v
          rw [ih h2, List.set_comm _ _ h1]
      rw [key r e, List.set_set]
theorem wipe_wipe {s : List (Option V)} : ∀ {own : List Nat}, L2.wipe (L2.wipe s own) own = L2.wipe s own := by
  intro own
  have key : ∀ (l : List Nat), (∀ x ∈ l, x ∈ own) → L2.wipe (L2.wipe s l) own = L2.wipe s own := by
    intro l
    induction l with
    | nil => intro _; rfl
    | cons a l ih =>
      intro hs
      show L2.wipe ((L2.wipe s l).set a none) own = _
      rw [set_wipe (hs a (List.mem_cons_self ..))]
      exact ih fun x hx => hs x (List.mem_cons_of_mem _ hx)
  exact key own fun _ h => h
def tGp {G : Gs} (Z : Zs G) (p : Pt) : TG := fun v s H Qs => ∃ (W : Kn) (m : Mu) (d : D) (σ σ' : Env), bindP p d σ = some σ' ∧ SRel Z W m H ∧ SlotR Z W σ s ∧ Rep G W v d ∧
  ∀ s', SlotR Z W σ' s' → (∀ own, ptIn own p = true → L2.wipe s' own = L2.wipe s own) → Qs s' H
def tGps {G : Gs} (Z : Zs G) (ps : Pts) : TGs := fun vs s H Qs => ∃ (W : Kn) (m : Mu) (ds : List D) (σ σ' : Env), bindPs ps ds σ = some σ' ∧ SRel Z W m H ∧ SlotR Z W σ s ∧ RepL G W vs ds ∧
  ∀ s', SlotR Z W σ' s' → (∀ own, ptsIn own ps = true → L2.wipe s' own = L2.wipe s own) → Qs s' H
theorem PG.of {X : Cx} {e : Expr} {t t' : TG} (h : PG X e t) (i : ∀ v s H Q, t' v s H Q → t v s H Q) : PG X e t' := ⟨fun pins s σ H v u Q I r q => h.run pins s σ H v u Q I r (i _ _ _ _ q)⟩
theorem PGs.of {X : Cx} {e : List Expr} {t t' : TGs} (h : PGs X e t) (i : ∀ v s H Q, t' v s H Q → t v s H Q) : PGs X e t' := ⟨fun pins s σ H v u Q I r q => h.run pins s σ H v u Q I r (i _ _ _ _ q)⟩
theorem asg1 {e : Expr} {es : List Expr} {env : PySem.Env} (h : notStar e = true) : assignEach (e :: es) env = (false, assign e env) :: assignEach es env := by
  cases e <;> first | rfl | cases h
section
variable {G : Gs} {Z : Zs G} {px : PxE} {cm : Bool} {cst : Nat → Nat} {Φ : Fs} {gv : Nat → D} {k : Nat} {C : Ct} {X : Cx}
theorem mPts_asg {C : Ct} {env : PySem.Env} : ∀ {ps : Pts} {es : List Expr}, mPts C ps es = true → (assignEach es env).findIdx? (·.1) = none
  | .nil, [], _ => rfl
  | .nil, _ :: _, h => by cases h
  | .cons _ _, [], h => by cases h
  | .cons p r, e :: es, h => by
    have h' : (notStar e && mPt C p e && mPts C r es) = true := h
    simp only [Bool.and_eq_true] at h'
    rw [asg1 h'.1.1, List.findIdx?_cons]
    simp [mPts_asg h'.2]
theorem mPts_len {C : Ct} {env : PySem.Env} : ∀ {ps : Pts} {es : List Expr} {ds : List D} {σ σ' : Env}, mPts C ps es = true → bindPs ps ds σ = some σ' → (assignEach es env).length = ds.length
  | .nil, [], [], _, _, _, _ => rfl
  | .nil, [], _ :: _, _, _, _, e => by cases e
  | .nil, _ :: _, _, _, _, h, _ => by cases h
  | .cons _ _, [], _, _, _, h, _ => by cases h
  | .cons _ _, _ :: _, [], _, _, _, e => by cases e
  | .cons p r, e :: es, d :: ds, σ, σ', h, hb => by
    have h' : (notStar e && mPt C p e && mPts C r es) = true := h
    simp only [Bool.and_eq_true] at h'
    have hb' : (match bindP p d σ with
      | some σ' => bindPs r ds σ'
      | none => none) = some σ' := hb
    cases q : bindP p d σ with
    | none => rw [q] at hb'; cases hb'
    | some σ1 =>
      rw [q] at hb'
      rw [asg1 h'.1.1, List.length_cons, List.length_cons, mPts_len h'.2 hb']
theorem ptB_of {p : Pt} {c : Bool} (h : c = true) : ptB p c = true := by cases p <;> first | rfl | exact h
mutual
theorem snd_pt (h : XOk Z px cm cst Φ gv k C X) : ∀ (p : Pt) (pe : Expr), ptB p cm = true → mPt C p pe = true → PG X pe (tGp Z p)
  | .nm i, pe, _, hm => by
    cases pe <;> first
      | (cases hm; done)
      | skip
    rename_i x pos
    have hm' : (decide (C.N[i]? = some x) && locB C x) = true := hm
    obtain ⟨h1, h2⟩ := Bool.and_eq_true_iff.mp hm'
    have h1 := of_decide_eq_true h1
    have hl : Loc X.env.scope x ∧ (X.fn x = true ∨ X.env.scope.names.lookup x = some .local) := by
      rw [h.sc]
      unfold locB at h2
      cases e : C.sc.names.lookup x with
      | none => rw [e] at h2; cases h2
      | some z =>
        rw [e] at h2
        cases z <;> first
          | (cases h2; done)
          | exact ⟨.inl e, .inr rfl⟩
          | exact ⟨.inr e, .inl (h.fn x h2)⟩
    refine PG.of (pg_name (i := i) (by rw [h.N]; exact h.nd) (by rw [h.N]; exact h1) hl.1 hl.2) ?_
    intro v s H Q q
    obtain ⟨W, m, d, σ, σ', e, S, L, r, kq⟩ := q
    cases e
    refine kq _ (L.set r) fun own ho => set_wipe ?_
    have ho' : own.contains i = true := ho
    simpa using ho'
  | .tp ps, pe, hc, hm => by
    cases pe <;> first
      | (cases hm; done)
      | skip
    rename_i es kk pos
    have hm' : mPts C ps es = true := hm
    refine ⟨fun pins s σ H v u Q I r q => ?_⟩
    obtain ⟨W, m, d, σ1, σ', e, S, L, rd', kq⟩ := q
    cases d <;> first
      | (cases e; done)
      | skip
    rename_i ds
    have e' : bindPs ps ds σ1 = some σ' := e
    cases rd' with
    | tup h1 h2 =>
      rename_i a xs
      refine (pg_tup (n := ds.length) (h.calm hc) (snd_pts h hc ps es hm') (mPts_len hm' e') (mPts_asg hm')).run pins s σ H _ u Q I r ?_
      refine ⟨a, xs, rfl, ?_, h2.length, W, m, ds, σ1, σ', e', S, L, h2, fun s' L' hw => kq s' L' hw⟩
      rw [h.K]
      exact sqT_H S h1
  | .tl ps, pe, hc, hm => by
    cases pe <;> first
      | (cases hm; done)
      | skip
    rename_i es kk pos
    have hm' : mPts C ps es = true := hm
    refine ⟨fun pins s σ H v u Q I r q => ?_⟩
    obtain ⟨W, m, d, σ1, σ', e, S, L, rd', kq⟩ := q
    cases d <;> first
      | (cases e; done)
      | skip
    rename_i ds
    have e' : bindPs ps ds σ1 = some σ' := e
    cases rd' with
    | lst h1 h2 =>
      rename_i a xs
      refine (pg_lst (n := ds.length) (h.calm hc) (snd_pts h hc ps es hm') (mPts_len hm' e') (mPts_asg hm')).run pins s σ H _ u Q I r ?_
      exact ⟨a, xs, rfl, .of (S.fz _ _ h1), h2.length, W, m, ds, σ1, σ', e', S, L, h2, fun s' L' hw => kq s' L' hw⟩
theorem snd_pts (h : XOk Z px cm cst Φ gv k C X) (hc : cm = true) : ∀ (ps : Pts) (pes : List Expr), mPts C ps pes = true → PGs X pes (tGps Z ps)
  | .nil, [], _ => by
    refine PGs.of pgs_nil ?_
    intro vs s H Q q
    obtain ⟨W, m, ds, σ, σ', e, S, L, r, kq⟩ := q
    cases ds with
    | nil =>
      cases r
      cases e
      exact ⟨rfl, kq _ L fun _ _ => rfl⟩
    | cons _ _ => cases e
  | .nil, _ :: _, hm => by cases hm
  | .cons _ _, [], hm => by cases hm
  | .cons p r, e :: es, hm => by
    have hm' : (notStar e && mPt C p e && mPts C r es) = true := hm
    simp only [Bool.and_eq_true] at hm'
    refine PGs.of (pgs_cons (snd_pt h p e (ptB_of hc) hm'.1.2) (snd_pts h hc r es hm'.2) (by rw [asg1 hm'.1.1]; rfl)) ?_
    intro vs s H Q q
    obtain ⟨W, m, ds, σ, σ', eb, S, L, rr, kq⟩ := q
    cases ds with
    | nil => cases eb
    | cons d ds =>
      cases rr with
      | cons r1 r2 =>
        rename_i v vs'
        have hb' : (match bindP p d σ with
          | some σ' => bindPs r ds σ'
          | none => none) = some σ' := eb
        cases q : bindP p d σ with
        | none => rw [q] at hb'; cases hb'
        | some σ1 =>
          rw [q] at hb'
          refine ⟨v, vs', rfl, W, m, d, σ, σ1, q, S, L, r1, fun s1 L1 hw1 => ?_⟩
          refine ⟨W, m, ds, σ1, σ', hb', S, L1, r2, fun s2 L2' hw2 => kq s2 L2' fun own ho => ?_⟩
          have ho' : (ptIn own p && ptsIn own r) = true := ho
          obtain ⟨o1, o2⟩ := Bool.and_eq_true_iff.mp ho'
          rw [hw2 own o2, hw1 own o1]
end
/-! ### what a for walks -/
/-- its items are these, while the boxes at gs stand -/
structure WalkD (G : Gs) (W : Kn) (J : L2.It) (items : List D) (gs : List (Nat × List D)) : Prop where
  go : ∃ (P : Hp → Prop) (Y : Nat → Hp → V → Hp → Prop), Walk J items.length P Y ∧ (∀ W' m' H', Kn.le W W' → SRel0 G W' m' H' → Gd gs m' → P H') ∧
    ∀ i H' v H'' W' m', i < items.length → Kn.le W W' → SRel0 G W' m' H' → Gd gs m' → Y i H' v H'' → ∃ d W'', items[i]? = some d ∧ Rep G W'' v d ∧ SRel0 G W'' m' H'' ∧ Step W' m' H' W'' m' H'' 0
def tI {G : Gs} (Z : Zs G) (w : Env → Mu → (List D → List (Nat × List D) → Mu → Prop) → Prop) (c : Nat) : TI := fun s H R => ∃ (W : Kn) (m : Mu) (σ : Env) (Q : List D → List (Nat × List D) → Mu → Prop), w σ m Q ∧ SRel Z W m H ∧ SlotR Z W σ s ∧ W.n + c ≤ Z.lim ∧
  ∀ items gs m' H' W' J, Step W m H W' m' H' c → SRel Z W' m' H' → WalkD G W' J items gs → items.length ≤ line → Q items gs m' → R J H'
abbrev OkI {G : Gs} (Z : Zs G) (X : Cx) (l : Expr → Lk) (w : Env → Mu → (List D → List (Nat × List D) → Mu → Prop) → Prop) (c : Nat) : Prop := ∀ tg pe, l tg pe = true → PI X tg pe (tI Z w c)
theorem PI.of {X : Cx} {tg e : Expr} {t t' : TI} (h : PI X tg e t) (i : ∀ s H Q, t' s H Q → t s H Q) : PI X tg e t' := ⟨fun pins s σ H Q I q => h.run pins s σ H Q I (i _ _ _ q)⟩
/-- a list, a tuple, a text -/
def iSeq (K : PySem.W.Frag) (te : TE) : TI := fun σ H R => te σ H fun x H1 => (∃ a, x = .ref a ∧ (∃ xs, SqL K H1 a xs) ∧ R (Itl K a) H1) ∨ (∃ a, x = .ref a ∧ (∃ xs, SqT K H1 a xs) ∧ R (Itt K a) H1) ∨ (∃ z, x = .str z ∧ R (Its z) H1)
theorem pi_seq {tg l : Expr} {tl : TE} (hl : PE X l tl) : PI X tg l (iSeq X.K tl) := by
  refine ⟨fun pins s σ H R I h => ?_⟩
  refine thn (hl.run pins s σ H _ I h) fun v s1 ⟨x, H1, I1, r1, q1⟩ => ?_
  rcases q1 with ⟨a, e, ⟨xs, hq⟩, q⟩ | ⟨a, e, ⟨xs, hq⟩, q⟩ | ⟨z, ex, q⟩
  · subst e
    cases r1
    obtain ⟨its, rv, p, hz⟩ := I1.list hq
    refine wpAny_pyIter_list p.isList ?_
    refine ⟨s1.heap.objs.size, [s1.heap.objs.size], _, _, H1, rfl, I1.kept (t' := s1.toks) fun b o e => Heap.get?_push_of_some _ e, turn_list a _, ⟨_, Heap.get?_push_size _ rfl, rfl, rfl⟩, fun b hb => ?_, q⟩
    have e : b = s1.heap.objs.size := by simpa using hb
    subst e
    exact I1.fpOk (Nat.le_refl _) (I1.hok.fresh (Nat.le_refl _))
  · subst e
    cases r1
    obtain ⟨its, rv, p, hz⟩ := I1.tuple hq
    refine wpAny_pyIter_tuple (show s1.heap.IsTuple a its.toArray from p) ?_
    refine ⟨s1.heap.objs.size, [s1.heap.objs.size], _, _, H1, rfl, I1.kept (t' := s1.toks) fun b o e => Heap.get?_push_of_some _ e, turn_tuple a _, ⟨_, Heap.get?_push_size _ rfl, rfl, rfl⟩, fun b hb => ?_, q⟩
    have e : b = s1.heap.objs.size := by simpa using hb
    subst e
    exact I1.fpOk (Nat.le_refl _) (I1.hok.fresh (Nat.le_refl _))
  · subst ex
    obtain ⟨t, rfl⟩ := r1
    cases ha : z.cps.all (· < 128)
    · exact wpAny_pyIter_wide ha (pi_one (tk := s1.toks) I1 _ (turn_str _ z t "str_iterator" (.inr rfl)) ⟨_, Heap.get?_push_size _ rfl, rfl, rfl⟩ q)
    · exact wpAny_pyIter_ascii ha (pi_one (tk := s1.toks) I1 _ (turn_str _ z t "str_ascii_iterator" (.inl rfl)) ⟨_, Heap.get?_push_size _ rfl, rfl, rfl⟩ q)
theorem gd_nil {m : Mu} : Gd [] m := fun _ h => by cases h
theorem walk_l {W : Kn} {m : Mu} {H : Hp} {K : PySem.W.Frag} {a : Addr} {xs : List V} {ds : List D} (hf : W.F a = some (.lst xs)) (q : RepL G W xs ds) : WalkD G W (Itl K a) ds [] := by
  refine ⟨fun H => SqL K H a xs, YAt xs, by rw [← q.length]; exact walk_list, fun W' m' H' le S _ => .of (S.fz _ _ (le.f _ _ hf)), fun i H' v H'' W' m' hi le S _ y => ?_⟩
  obtain ⟨e1, e2⟩ := y
  subst e1
  obtain ⟨d, q1, q2⟩ := q.getV e2
  exact ⟨d, W', q1, Rep.mono le _ q2, S, Step.refl ..⟩
theorem walk_t {W : Kn} {a : Addr} {xs : List V} {ds : List D} (hf : SqT G.K W.F a xs) (q : RepL G W xs ds) : WalkD G W (Itt G.K a) ds [] := by
  refine ⟨fun H => SqT G.K H a xs, YAt xs, by rw [← q.length]; exact walk_tup, fun W' m' H' le S _ => sqT_H0 S (sqT_mono le hf), fun i H' v H'' W' m' hi le S _ y => ?_⟩
  obtain ⟨e1, e2⟩ := y
  subst e1
  obtain ⟨d, q1, q2⟩ := q.getV e2
  exact ⟨d, W', q1, Rep.mono le _ q2, S, Step.refl ..⟩
theorem walk_s {W : Kn} (z : List Nat) : WalkD G W (Its ⟨z.toArray⟩) (z.map fun c => .str [c]) [] := by
  refine ⟨fun _ => True, (fun i H v H' => H' = H ∧ ∃ c, (⟨z.toArray⟩ : Str).cps[i]? = some c ∧ v = .str ⟨#[c]⟩), ?_, fun _ _ _ _ _ _ => trivial, fun i H' v H'' W' m' hi le S _ y => ?_⟩
  · have e : (z.map fun c => D.str [c]).length = (⟨z.toArray⟩ : Str).cps.size := by simp
    rw [e]
    exact walk_str
  · obtain ⟨e1, c, e2, e3⟩ := y
    subst e1 e3
    refine ⟨.str [c], W', ?_, .str [c], S, Step.refl ..⟩
    have e2' : z[i]? = some c := by simpa using e2
    simp [e2']
theorem walk_b {W : Kn} {K : PySem.W.Frag} {a : Addr} {ds : List D} : WalkD G W (Itl K a) ds [(a, ds)] := by
  refine ⟨fun H => ∃ ys, H a = some (.lst ys) ∧ ys.length = ds.length, (fun i H v H' => H' = H ∧ ∀ xs, SqL K H a xs → xs[i]? = some v), ⟨fun i H hi q => ?_, fun H q => ?_, fun i H v H' _ _ y => y⟩, fun W' m' H' le S gd => ?_, fun i H' v H'' W' m' hi le S gd y => ?_⟩
  · obtain ⟨ys, e, el⟩ := q
    exact ⟨ys, ys[i]'(by omega), .of e, by simp [show i < ys.length by omega]⟩
  · obtain ⟨ys, e, el⟩ := q
    exact ⟨ys, .of e, Nat.le_of_eq el⟩
  · obtain ⟨vs, h1, h2⟩ := S.bx a _ (gd _ (List.mem_singleton.mpr rfl))
    exact ⟨vs, h1, h2.length⟩
  · obtain ⟨vs, h1, h2⟩ := S.bx a _ (gd _ (List.mem_singleton.mpr rfl))
    obtain ⟨e1, e2⟩ := y
    subst e1
    obtain ⟨d, q1, q2⟩ := h2.getV (e2 vs (.of h1))
    exact ⟨d, W', q1, q2, S, Step.refl ..⟩
theorem sni_seq (h : XOk Z px cm cst Φ gv k C X) {e : E} {le : Lk} (he : OkP Z X le (fun σ m Q => wpE Φ gv cm e σ m Q (px.at σ)) (cE cst e)) : OkI Z X (mSeq le) (fun σ m Q => wpIt Φ gv cm (.seq e) σ m Q (px.at σ)) (cE cst e) := by
  intro tg pe hm
  refine PI.of (pi_seq (he pe hm)) ?_
  intro s H R q
  obtain ⟨W, m, σ, Q, hw, S, L, hn, kq⟩ := q
  refine ⟨W, m, σ, _, hw, S, L, hn, fun d m1 v H1 W1 st1 S1 r q1 => ?_⟩
  split at q1
  · rename_i ds
    cases r with
    | lst h1 h2 =>
      have hb := S1.bd _ _ (.inl (S1.fz _ _ h1))
      exact .inl ⟨_, rfl, ⟨_, .of (S1.fz _ _ h1)⟩, kq _ _ m1 H1 W1 _ st1 S1 (walk_l (m := m1) (H := H1) h1 h2) (by rw [← h2.length, line_eq]; exact hb) q1⟩
  · rename_i ds
    cases r with
    | tup h1 h2 =>
      refine .inr (.inl ⟨_, rfl, ⟨_, by rw [h.K]; exact sqT_H S1 h1⟩, ?_⟩)
      rw [h.K]
      exact kq _ _ m1 H1 W1 _ st1 S1 (walk_t h1 h2) (by rw [← h2.length, line_eq]; exact tup_len S1 h1) q1
  · rename_i z
    cases r
    exact .inr (.inr ⟨_, rfl, kq _ _ m1 H1 W1 _ st1 S1 (walk_s z) (by simpa using q1.1) q1.2⟩)
  · rename_i a
    cases r
    obtain ⟨ds, e1, q1⟩ := q1
    obtain ⟨vs, h1, h2⟩ := S1.bx a _ e1
    have hb := S1.bd _ _ (.inl h1)
    exact .inl ⟨_, rfl, ⟨_, .of h1⟩, kq _ _ m1 H1 W1 _ st1 S1 walk_b (by rw [← h2.length, line_eq]; exact hb) q1⟩
  · exact q1.elim
end
end Pk

/-! enumerate of a list, a tuple, a text, from 0 or with start=1. -/
namespace Pk
open PySem L2 PyProof.Rows
open Sem (wp)
theorem meets_enumerate_new0 {v : Value} {o : Obj} {H : Heap → Prop} (B : Begins v o H) :
    Meets (Builtin.«enumerate.__new__» ⟨[.type "enumerate", v], []⟩) (fun _ R s => H s.heap ∧
      R (.ok (.ret (.ref (s.heap.push o).objs.size))) { s with heap := (s.heap.push o).push { cls := .type "enumerate", data := .fields #[.none, .bool false, .ref s.heap.objs.size, rawInt 0, .none, .none] } }) :=
  .of_wp fun prog w A R s h => by
    obtain ⟨hp, g, d, tk, os⟩ := s; obtain ⟨h1, h⟩ := h
    have hsub := sub_enumerate
    have q1 : ∀ {A' : Around} {E : Value → Shared → Prop} {Q : Value → Shared → Prop}, Q (.ref hp.objs.size) ⟨hp.push o, g, d, tk, os⟩ → wpAny (model prog w) A' (pyIter v) Q E ⟨hp, g, d, tk, os⟩ :=
      fun q => B.iter prog w _ _ ⟨hp, g, d, tk, os⟩ _ h1 q
    wp_walk using q1
    refine wpAny_stack_any fun st => wpAny_pure ?_
    split
    · rename_i c _ _ _ _ _
      cases (c == Value.type "enumerate")
      · wp_walk using q1
        exact ⟨_, rfl, h⟩
      · wp_walk using q1
        exact ⟨_, rfl, h⟩
    · wp_walk using q1
      exact ⟨_, rfl, h⟩
section
variable {prog : Program} {w : World} {A : Around} {E : Value → Shared → Prop} {s : Shared}
theorem enum_begins0 {v : Value} {o : Obj} {H : Heap → Prop} {Q : Value → Shared → Prop} (B : Begins v o H) (h1 : H s.heap)
    (h : ∀ h', IsEnum h' (s.heap.objs.size + 1) s.heap.objs.size 0 .none → h'.get? s.heap.objs.size = some o → h'.objs.size = s.heap.objs.size + 2 →
      (∀ b o, s.heap.get? b = some o → h'.get? b = some o) → Q (.ref (s.heap.objs.size + 1)) { s with heap := h' }) :
    wpAny (model prog w) A (call (.type "enumerate") [v]) Q E s := by
  refine callType_new F.called_enumerate (by decide) (F.typeCall_enumerate_1 _) (F.newCall_enumerate_1 _) (fun obj => F.args_object_init_2 obj _) F.entry_enumerate_new
    (meets_enumerate_new0 B) ⟨h1, ?_⟩
  have hz : (s.heap.push o).objs.size = s.heap.objs.size + 1 := Heap.size_push ..
  show _ ∧ _
  rw [hz]
  have he : IsEnum ((s.heap.push o).push { cls := .type "enumerate", data := .fields #[.none, .bool false, .ref s.heap.objs.size, rawInt 0, .none, .none] }) (s.heap.objs.size + 1) s.heap.objs.size 0 .none := by
    have := Heap.get?_push_size (s.heap.push o) (o := { cls := .type "enumerate", data := .fields #[.none, .bool false, .ref s.heap.objs.size, rawInt 0, .none, .none] }) rfl
    rw [hz] at this; exact this
  refine ⟨⟨_, he, rfl⟩, h _ he (Heap.get?_push_of_some _ (Heap.get?_push_size _ B.free)) (by rw [Heap.size_push, hz]) fun b o x => Heap.get?_push_of_some _ (Heap.get?_push_of_some _ x)⟩
theorem callWith_type_kw {M : Model} {E : Value → Shared → Prop} {s : Shared} {pos : Pos} {T : String} {env : PySem.Env} {e : Expr} {rest : List Expr} {kws : List Keyword} {Q : Value → Shared → Prop}
    (h : wpAny M A (spliced (backTo pos (starEach (e :: rest) env))) (fun vs s₁ => wpAny M A (evalAll ((backToKw pos (keywordEach kws env)).map (·.2)))
      (fun kvs s₂ => wpAny M A (call (.type T) vs (((backToKw pos (keywordEach kws env)).filterMap (·.1)).zip kvs)) Q E s₂) E s₁) E s)
    (he : starEach (e :: rest) env = (false, eval e env) :: starEach rest env)
    (hplain : (backTo pos (starEach (e :: rest) env)).any (·.1) = false)
    (hall : (backToKw pos (keywordEach kws env)).all (·.1.isSome) = true)
    (hkw : (backToKw pos (keywordEach kws env)).any (·.1.isNone) = false) :
    wpAny M A (callWith pos (.type T) [] (backTo pos (starEach (e :: rest) env)) (backToKw pos (keywordEach kws env))) Q E s := by
  have he2 : backTo pos (starEach (e :: rest) env) = (false, eval e env) :: backTo pos (starEach rest env) := by rw [he]; rfl
  unfold callWith
  have h2 : wpAny M A (evalArgs (.type T) true (backTo pos (starEach (e :: rest) env)) (backToKw pos (keywordEach kws env))) (fun a s₁ => wpAny M A (call (.type T) ([] ++ a.pos) a.kw) Q E s₁) E s := by
    rw [he2] at h ⊢
    exact evalArgs_kwB hall h
  refine wpAny_bind (wpAny_holding (wpAny_mono h2 (fun a s₁ h₁ => wpAny_bind (wpAny_standAt ?_)) fun _ _ x => x))
  simp only [hplain, hkw, Bool.or_false]
  refine wpAny_bind (wpAny_pure ?_)
  exact wpAny_bind (wpAny_mono h₁ (fun r s₂ hr => wpAny_bind (wpAny_holding (wpAny_point (wpAny_pure hr)))) fun _ _ x => x)
end
/-- enumerate from k0 over what stands still: each item in a new pair -/
def ItE (k0 : Int) (n : Nat) (go : Hp → Prop) (at_ : Nat → Option V) : L2.It :=
  ⟨fun i H => i < n ∧ go H, fun i H v H' => ∃ T x, v = .ref T ∧ H T = none ∧ H' = upd H T (.tup [.int (k0 + (i : Nat)), x]) ∧ at_ i = some x, fun i H => i = n ∧ go H⟩
structure SrcE (P : Program) (w : World) (K : PySem.W.Frag) (e it : Addr) (n : Nat) (go : Hp → Prop) (at_ : Nat → Option V) (S : Nat → Heap → Prop) : Prop where
  obj : ∀ i h, S i h → ∃ o, h.get? it = some o ∧ ∀ v, o.data ≠ .cell v
  keep : ∀ i h h', S i h → (∀ o, h.get? it = some o → h'.get? it = some o) → S i h'
  src : ∀ (X : Cx), X.prog = P → X.w = w → X.K = K → X.calm = true → ∀ (i : Nat) (pins : List (Addr × Obj)) (s : Shared) (σ : L2.St) (H : Hp), Inv X pins σ H s → (∃ c old, IsEnum s.heap e it c old) → S i s.heap → go H →
     ∃ (fp : List Addr) (Pd : Nat → Value → Prop) (St : Nat → Heap → Prop), Draws P w X.A.in1 it fp n Pd St ∧ e ∉ fp ∧ St i s.heap ∧ (∀ i h, St i h → S i h) ∧ ∀ i u, Pd i u → ∃ x, RelV x u ∧ at_ i = some x
theorem turn_enG {P : Program} {w : World} {K : PySem.W.Frag} {elts : List Expr} {kk : Nat} {tpos : Pos} {e it : Addr} {k0 : Int} {n : Nat} {go : Hp → Prop} {at_ : Nat → Option V} {S : Nat → Heap → Prop} (T : SrcE P w K e it n go at_ S) :
    Turn P w K (.Tuple elts kk tpos) (ItE k0 n go at_) [e, it] e (fun i h => (∃ old, IsEnum h e it (k0 + (i : Nat)) old) ∧ S i h ∧ e ≠ it) where
  mem := by simp
  obj := fun i h st b hb => by
    obtain ⟨⟨old, he⟩, hS, _⟩ := st
    have e' : b = e ∨ b = it := by simpa using hb
    rcases e' with z | z
    · rw [z]; exact ⟨_, he, fun v q => nomatch q⟩
    · rw [z]; exact T.obj i h hS
  keep := fun i h h' st k => let ⟨⟨old, he⟩, hi, hne⟩ := st; ⟨⟨old, k e (by simp) _ he⟩, T.keep i h h' hi fun o q => k it (by simp) o q, hne⟩
  item := by
    intro X hP hw hK hc i pins s σ H E I hf st hg
    obtain ⟨⟨old, he⟩, hS, hne⟩ := st
    obtain ⟨hi, hgo⟩ := hg
    obtain ⟨fp, Pd, St, D, hef, hst, hback, hval⟩ := T.src X hP hw hK hc i pins s σ H I ⟨_, _, he⟩ hS hgo
    subst hP hw hK
    have hel : e < s.heap.objs.size := Heap.lt_size he
    have hil : it < s.heap.objs.size := by obtain ⟨_, q, _⟩ := T.obj i _ hS; exact Heap.lt_size q
    refine wpAny_pyNext_enum_itemC D he hst hi hne hef fun u h' tk hP ho hst' hT hsz hk => ?_
    obtain ⟨x, ru, hx⟩ := hval i u hP
    refine ⟨_, rfl, wpAny_letOwnedTupleGo_enum (s := { s with heap := h', toks := tk + 1 }) ho fun h'' he' sb => ?_⟩
    have hT2 : h''.get? s.heap.objs.size = some { cls := .type "tuple", data := .seq #[.int (k0 + (i : Nat)) tk, u] } := (sb.2 _ (Nat.ne_of_gt hel)).trans hT
    have new : ObjOk X.prog X.w (upd H s.heap.objs.size (.tup [.int (k0 + (i : Nat)), x])) h'' s.heap.objs.size (.tup [.int (k0 + (i : Nat)), x]) :=
      ⟨by show 2 ≤ sizeLine; decide, [.int (k0 + (i : Nat)) tk, u], .cons ⟨_, rfl⟩ (.cons ru .nil), ⟨_, hT2, rfl, _, rfl⟩⟩
    have I1 : Inv X pins σ (upd H s.heap.objs.size (.tup [.int (k0 + (i : Nat)), x])) { s with heap := h'', toks := tk + 1 } :=
      I.turnedNew (ch := [e, it]) (fun b ob hb q => (sb.2 b (fun z => hb (by simp [z]))).trans (hk b ob (fun z => hb (by simp [z])) (fun z => hb (by simp [z])) q)) hf (Nat.le_refl _) new
    refine ⟨.ref s.heap.objs.size, _, I1, rfl, ⟨_, x, rfl, I.hok.fresh (Nat.le_refl _), rfl, hx⟩, ⟨⟨u, ?_⟩, T.keep _ _ _ (hback _ _ hst') fun o q => (sb.2 it (Ne.symm hne)).trans q, hne⟩, fun b hb => ?_⟩
    · have e1 : k0 + ((i + 1 : Nat) : Int) = k0 + (i : Int) + 1 := by omega
      rw [e1]; exact he'
    · have hb' : b < s.heap.objs.size := by
        have e' : b = e ∨ b = it := by simpa using hb
        rcases e' with z | z
        · rw [z]; exact hel
        · rw [z]; exact hil
      rw [upd_ne (Nat.ne_of_lt hb')]
      exact (hf b hb).1
  done := by
    intro X hP hw hK hc i pins s σ H E I hf st hg
    obtain ⟨⟨old, he⟩, hS, hne⟩ := st
    obtain ⟨hi, hgo⟩ := hg
    obtain ⟨fp, Pd, St, D, hef, hst, hback, hval⟩ := T.src X hP hw hK hc i pins s σ H I ⟨_, _, he⟩ hS hgo
    subst hP hw hK
    subst hi
    obtain ⟨f0, f1, f2, f3, f4, f5⟩ := hf it (by simp)
    exact wpAny_pyNext_enum_endD D he hst fun h' eb => ⟨rfl, I.turned (t' := s.toks) (fun b o hb q => eb b o hb q) f0 f1 f3 f4 f5⟩
  self := fun A i s Q E st h => let ⟨⟨_, he⟩, _⟩ := st; wpAny_pyIter_enum he h
theorem srcL {P : Program} {w : World} {K : PySem.W.Frag} {e it a : Addr} {xs : List V} (hit : a ≠ it) : SrcE P w K e it xs.length (fun H => SqL K H a xs) (fun i => xs[i]?) (fun i h => h.IsListIter it a i) where
  obj := fun i h ⟨o, ho, hc, hd⟩ => ⟨o, ho, fun v q => by rw [hd] at q; cases q⟩
  keep := fun i h h' st k => st.at fun o q => k o q
  src := by
    intro X hP hw hK hc i pins s σ H I ⟨c, old, he⟩ hS hgo
    subst hP hw hK
    obtain ⟨its, rv, p, hz⟩ := I.list hgo
    have D := Draws.list (prog := X.prog) (w := X.w) (A := X.A.in1) (I.ok.hd hc) it a hit its.toArray
    have hn : its.toArray.size = xs.length := by simp [rv.length]
    rw [hn] at D
    refine ⟨_, _, _, D, ?_, ⟨hS, p.isList⟩, fun i h q => q.1, fun i u q => ?_⟩
    · intro hm
      have e' : e = it ∨ e = a := by simpa using hm
      rcases e' with z | z
      · obtain ⟨o, ho, hc, hd⟩ := hS
        rw [← z, he] at ho
        cases ho
        exact absurd (Value.type.inj hc) (by decide)
      · obtain ⟨o, n, ho, hc, hd, hs⟩ := p
        rw [← z, he] at ho
        cases ho
        exact absurd (Value.type.inj hc) (by decide)
    · have hi : its[i]? = some u := by simpa using q
      obtain ⟨h1, h2⟩ := List.getElem?_eq_some_iff.mp hi
      have hlt : i < xs.length := by rw [← rv.length] at h1; exact h1
      obtain ⟨u', e1, e2⟩ := rv.get (List.getElem?_eq_getElem hlt)
      rw [hi] at e1
      cases e1
      exact ⟨_, e2, List.getElem?_eq_getElem hlt⟩
theorem srcT {P : Program} {w : World} {K : PySem.W.Frag} {e it a : Addr} {xs : List V} (hit : a ≠ it) : SrcE P w K e it xs.length (fun H => SqT K H a xs) (fun i => xs[i]?) (fun i h => h.IsTupleIter it a i) where
  obj := fun i h ⟨o, ho, hc, hd⟩ => ⟨o, ho, fun v q => by rw [hd] at q; cases q⟩
  keep := fun i h h' st k => st.at fun o q => k o q
  src := by
    intro X hP hw hK hc i pins s σ H I ⟨c, old, he⟩ hS hgo
    subst hP hw hK
    obtain ⟨its, rv, p, hz⟩ := I.tuple hgo
    have D := Draws.tuple (prog := X.prog) (w := X.w) (A := X.A.in1) (I.ok.hd hc) it a hit its.toArray
    have hn : its.toArray.size = xs.length := by simp [rv.length]
    rw [hn] at D
    refine ⟨_, _, _, D, ?_, ⟨hS, p⟩, fun i h q => q.1, fun i u q => ?_⟩
    · intro hm
      have e' : e = it ∨ e = a := by simpa using hm
      rcases e' with z | z
      · obtain ⟨o, ho, hc, hd⟩ := hS
        rw [← z, he] at ho
        cases ho
        exact absurd (Value.type.inj hc) (by decide)
      · obtain ⟨o, ho, hc, n, hs⟩ := p
        rw [← z, he] at ho
        cases ho
        exact absurd (Value.type.inj hc) (by decide)
    · have hi : its[i]? = some u := by simpa using q
      obtain ⟨h1, h2⟩ := List.getElem?_eq_some_iff.mp hi
      have hlt : i < xs.length := by rw [← rv.length] at h1; exact h1
      obtain ⟨u', e1, e2⟩ := rv.get (List.getElem?_eq_getElem hlt)
      rw [hi] at e1
      cases e1
      exact ⟨_, e2, List.getElem?_eq_getElem hlt⟩
theorem srcS {P : Program} {w : World} {K : PySem.W.Frag} {e it : Addr} {x : Str} {t : Tok} : SrcE P w K e it x.cps.size (fun _ => True) (fun i => (x.cps[i]?).map fun c => .str ⟨#[c]⟩) (fun i h => h.IsStrIter it (strIterType x) x t i) where
  obj := fun i h ⟨o, ho, hc, hd⟩ => ⟨o, ho, fun v q => by rw [hd] at q; cases q⟩
  keep := fun i h h' st k => let ⟨o, ho, r⟩ := st; ⟨o, k o ho, r⟩
  src := by
    intro X hP hw hK hc i pins s σ H I ⟨c, old, he⟩ hS hgo
    subst hP hw hK
    have D := Draws.text (prog := X.prog) (w := X.w) (A := X.A.in1) (I.ok.hd hc) it x t
    refine ⟨_, _, _, D, ?_, hS, fun i h q => q, fun i u q => ?_⟩
    · intro hm
      have z : e = it := by simpa using hm
      obtain ⟨o, ho, hc, hd⟩ := hS
      rw [← z, he] at ho
      cases ho
      unfold strIterType at hc
      split at hc <;> exact absurd (Value.type.inj hc) (by decide)
    · obtain ⟨c, u', e1, e2⟩ := q
      exact ⟨.str ⟨#[c]⟩, ⟨u', e2⟩, by rw [e1]; rfl⟩
/-- enumerate: what it walks -/
def iEnumA (K : PySem.W.Frag) (ta : TA) : TI := fun σ H R => ta σ H fun vs H1 => (∃ a xs, vs = [.ref a] ∧ SqL K H1 a xs ∧ R (Ite K a) H1) ∨
  (∃ a xs, vs = [.ref a] ∧ SqT K H1 a xs ∧ R (ItE 0 xs.length (fun H => SqT K H a xs) (fun i => xs[i]?)) H1) ∨
  (∃ x : Str, vs = [.str x] ∧ R (ItE 0 x.cps.size (fun _ => True) (fun i => (x.cps[i]?).map fun c => .str ⟨#[c]⟩)) H1)
theorem pi_enumA {X : Cx} {e : Expr} {ta : TA} {p pos tpos : Pos} {elts : List Expr} {kk : Nat} (hg : Gl X "enumerate") (hm : X.mg "enumerate" = none) (ha : PA X [e] ta) (hs : starEach [e] X.env = [(false, eval e X.env)]) :
    PI X (.Tuple elts kk tpos) (.Call (.Name "enumerate" p) [e] [] pos) (iEnumA X.K ta) := by
  refine ⟨fun pins s σ H R I h => ?_⟩
  refine Call_ (ld_blt I hg hm boot_enumerate (PyProof.Rows.callWith_type1 (thn (ha.run pos pins s σ H _ I h) fun us s1 ⟨vs, H1, I1, r1, q1⟩ => ?_) hs rfl))
  have fin : ∀ {n : Nat} {go : Hp → Prop} {at_ : Nat → Option V} {S : Nat → Heap → Prop} (k0 : Int) (T : SrcE X.prog X.w X.K (s1.heap.objs.size + 1) s1.heap.objs.size n go at_ S) (h' : Heap),
      IsEnum h' (s1.heap.objs.size + 1) s1.heap.objs.size k0 .none → S 0 h' → (∀ b o, s1.heap.get? b = some o → h'.get? b = some o) → R (ItE k0 n go at_) H1 → wpAny (model X.prog X.w) X.A (pyIter (.ref (s1.heap.objs.size + 1))) (PIE X pins σ (.Tuple elts kk tpos) R) X.xe { s1 with heap := h' } := by
    intro n go at_ S k0 T h' he hS hk q
    refine wpAny_pyIter_enum he ?_
    have I2 : Inv X pins σ H1 { s1 with heap := h' } := I1.kept (t' := s1.toks) hk
    refine ⟨s1.heap.objs.size + 1, [s1.heap.objs.size + 1, s1.heap.objs.size], _, _, H1, rfl, I2, turn_enG T, ⟨⟨.none, by simpa using he⟩, hS, Nat.succ_ne_self _⟩, fun b hb => ?_, q⟩
    have e' : b = s1.heap.objs.size + 1 ∨ b = s1.heap.objs.size := by simpa using hb
    have hle : s1.heap.objs.size ≤ b := by
      rcases e' with z | z
      · rw [z]; exact Nat.le_add_right _ _
      · rw [z]; exact Nat.le_refl _
    exact I1.fpOk hle (I1.hok.fresh hle)
  rcases q1 with ⟨a, xs, ex, hq, q⟩ | ⟨a, xs, ex, hq, q⟩ | ⟨x, ex, q⟩
  · subst ex
    cases r1 with
    | cons r rr =>
      cases rr
      cases r
      obtain ⟨its, rv, p', hz⟩ := I1.list hq
      refine call_enumerate_list p'.isList fun h' he hit hsz hk => wpAny_pyIter_enum he ?_
      have I2 : Inv X pins σ H1 { s1 with heap := h' } := I1.kept (t' := s1.toks) hk
      refine ⟨s1.heap.objs.size + 1, [s1.heap.objs.size + 1, s1.heap.objs.size], _, _, H1, rfl, I2, turn_enum a (s1.heap.objs.size + 1) s1.heap.objs.size, ⟨⟨.none, he⟩, hit, Nat.succ_ne_self _⟩, fun b hb => ?_, q⟩
      have e' : b = s1.heap.objs.size + 1 ∨ b = s1.heap.objs.size := by simpa using hb
      have hle : s1.heap.objs.size ≤ b := by
        rcases e' with z | z
        · rw [z]; exact Nat.le_add_right _ _
        · rw [z]; exact Nat.le_refl _
      exact I1.fpOk hle (I1.hok.fresh hle)
  · subst ex
    cases r1 with
    | cons r rr =>
      cases rr
      cases r
      obtain ⟨its, rv, p', hz⟩ := I1.tuple hq
      have hlt : a < s1.heap.objs.size := by obtain ⟨o, ho, _⟩ := p'; exact Heap.lt_size ho
      exact enum_begins0 (begins_tuple a its.toArray) p' fun h' he ho hsz hk => fin 0 (srcT (Nat.ne_of_lt hlt)) h' he ⟨_, ho, rfl, rfl⟩ hk q
  · subst ex
    cases r1 with
    | cons r rr =>
      cases rr
      obtain ⟨t, rfl⟩ := r
      exact enum_begins0 (begins_text x t) trivial fun h' he ho hsz hk => fin 0 srcS h' he ⟨_, ho, rfl, rfl⟩ hk q
def iEnum1 (K : PySem.W.Frag) (ta : TA) : TI := fun σ H R => ta σ H fun vs H1 => (∃ a xs, vs = [.ref a] ∧ SqL K H1 a xs ∧ R (ItE 1 xs.length (fun H => SqL K H a xs) (fun i => xs[i]?)) H1) ∨
  (∃ a xs, vs = [.ref a] ∧ SqT K H1 a xs ∧ R (ItE 1 xs.length (fun H => SqT K H a xs) (fun i => xs[i]?)) H1) ∨
  (∃ x : Str, vs = [.str x] ∧ R (ItE 1 x.cps.size (fun _ => True) (fun i => (x.cps[i]?).map fun c => .str ⟨#[c]⟩)) H1)
theorem pi_enum1 {X : Cx} {e : Expr} {ta : TA} {p pos tpos cpos kpos : Pos} {elts : List Expr} {kk ck : Nat} (hg : Gl X "enumerate") (hm : X.mg "enumerate" = none) (ha : PA X [e] ta) (hs : starEach [e] X.env = [(false, eval e X.env)]) :
    PI X (.Tuple elts kk tpos) (.Call (.Name "enumerate" p) [e] [⟨some "start", .Constant (.int 1) ck cpos, kpos⟩] pos) (iEnum1 X.K ta) := by
  refine ⟨fun pins s σ H R I h => ?_⟩
  refine wpAny_Call_Name_kw (ld_blt I hg hm boot_enumerate (callWith_type_kw (thn (ha.run pos pins s σ H _ I h) fun us s1 ⟨vs, H1, I1, r1, q1⟩ => ?_) hs (by rw [hs]; rfl) rfl rfl))
  have hpk : PK X [⟨some "start", .Constant (.int 1) ck cpos, kpos⟩] (tCons (tC (.int 1)) tNil) := pk_cons pe_int pk_nil
  refine thn (hpk.run pos pins s1 σ H1 (fun vs2 H2 => vs2 = [.int 1] ∧ H2 = H1) I1 ⟨rfl, rfl⟩) fun ws s2 ⟨vs2, H2, I2, r2, ev, eH⟩ => ?_
  subst ev
  subst eH
  cases r2 with
  | cons rk rr2 =>
  cases rr2
  obtain ⟨tk, rfl⟩ := rk
  show wpAny _ _ (call (.type "enumerate") us [("start", .int 1 tk)]) _ _ _
  have fin : ∀ {n : Nat} {go : Hp → Prop} {at_ : Nat → Option V} {S : Nat → Heap → Prop} (k0 : Int) (T : SrcE X.prog X.w X.K (s2.heap.objs.size + 1) s2.heap.objs.size n go at_ S) (h' : Heap),
      IsEnum h' (s2.heap.objs.size + 1) s2.heap.objs.size k0 .none → S 0 h' → (∀ b o, s2.heap.get? b = some o → h'.get? b = some o) → R (ItE k0 n go at_) H2 → wpAny (model X.prog X.w) X.A (pyIter (.ref (s2.heap.objs.size + 1))) (PIE X pins σ (.Tuple elts kk tpos) R) X.xe { s2 with heap := h' } := by
    intro n go at_ S k0 T h' he hS hk q
    refine wpAny_pyIter_enum he ?_
    have I3 : Inv X pins σ H2 { s2 with heap := h' } := I2.kept (t' := s2.toks) hk
    refine ⟨s2.heap.objs.size + 1, [s2.heap.objs.size + 1, s2.heap.objs.size], _, _, H2, rfl, I3, turn_enG T, ⟨⟨.none, by simpa using he⟩, hS, Nat.succ_ne_self _⟩, fun b hb => ?_, q⟩
    have e' : b = s2.heap.objs.size + 1 ∨ b = s2.heap.objs.size := by simpa using hb
    have hle : s2.heap.objs.size ≤ b := by
      rcases e' with z | z
      · rw [z]; exact Nat.le_add_right _ _
      · rw [z]; exact Nat.le_refl _
    exact I2.fpOk hle (I2.hok.fresh hle)
  rcases q1 with ⟨a, xs, ex, hq, q⟩ | ⟨a, xs, ex, hq, q⟩ | ⟨x, ex, q⟩
  · subst ex
    cases r1 with
    | cons r rr =>
      cases rr
      cases r
      obtain ⟨its, rv, p', hz⟩ := I2.list hq
      have hlt : a < s2.heap.objs.size := by obtain ⟨o, n, ho, _⟩ := p'; exact Heap.lt_size ho
      exact enum_begins_start (begins_list a its.toArray) p'.isList (by decide) (by decide) fun h' he ho hsz hk => fin 1 (srcL (Nat.ne_of_lt hlt)) h' he ⟨_, ho, rfl, rfl⟩ hk q
  · subst ex
    cases r1 with
    | cons r rr =>
      cases rr
      cases r
      obtain ⟨its, rv, p', hz⟩ := I2.tuple hq
      have hlt : a < s2.heap.objs.size := by obtain ⟨o, ho, _⟩ := p'; exact Heap.lt_size ho
      exact enum_begins_start (begins_tuple a its.toArray) p' (by decide) (by decide) fun h' he ho hsz hk => fin 1 (srcT (Nat.ne_of_lt hlt)) h' he ⟨_, ho, rfl, rfl⟩ hk q
  · subst ex
    cases r1 with
    | cons r rr =>
      cases rr
      obtain ⟨t, rfl⟩ := r
      exact enum_begins_start (begins_text x t) trivial (by decide) (by decide) fun h' he ho hsz hk => fin 1 srcS h' he ⟨_, ho, rfl, rfl⟩ hk q
end Pk

/-! Ranges, enumerate, zip, comprehensions; all expressions. -/
namespace Pk
open PySem L2
section
variable {G : Gs} {Z : Zs G} {px : PxE} {cm : Bool} {cst : Nat → Nat} {Φ : Fs} {gv : Nat → D} {k : Nat} {C : Ct} {X : Cx}
theorem walk_r {W : Kn} (lo : Int) (n : Nat) : WalkD G W (Itr lo n) ((List.range n).map fun i => .int (lo + (i : Nat))) [] := by
  refine ⟨fun _ => True, YFn fun i => .int (lo + i), ?_, fun _ _ _ _ _ _ => trivial, fun i H' v H'' W' m' hi le S _ y => ?_⟩
  · have e : ((List.range n).map fun i => D.int (lo + (i : Nat))).length = n := by simp
    rw [e]
    exact walk_range
  · obtain ⟨e1, e2⟩ := y
    subst e1 e2
    have hi' : i < n := by simpa using hi
    exact ⟨.int (lo + i), W', by simp [hi'], .int _, S, Step.refl ..⟩
theorem sni_rng (h : XOk Z px cm cst Φ gv k C X) {e : E} {le : Lk} (he : OkP Z X le (fun σ m Q => wpE Φ gv cm e σ m Q (px.at σ)) (cE cst e)) : OkI Z X (fun _ => mRng C le) (fun σ m Q => wpIt Φ gv cm (.rng e) σ m Q (px.at σ)) (cE cst e) := by
  intro tg pe hm
  have hm : mRng C le pe = true := hm
  unfold mRng at hm
  split at hm
  · simp only [Bool.and_eq_true, decide_eq_true_eq] at hm
    obtain ⟨⟨⟨h1, h2⟩, h3⟩, h4⟩ := hm
    subst h1
    obtain ⟨g1, g2, g3⟩ := bl_of h h2
    refine PI.of (pi_range1 g1 g3 (pa_cons (he _ h4) pa_nil (star1 h3)) (by rw [star1 h3]; rfl)) ?_
    intro s H R q
    obtain ⟨W, m, σ, Q, hw, S, L, hn, kq⟩ := q
    refine ⟨W, m, σ, _, hw, S, L, hn, fun d m1 v H1 W1 st1 S1 r q1 => ?_⟩
    split at q1
    · rename_i n
      cases r
      have hl : n ≤ 16777216 := q1.1
      have hneg := q1.2.1
      refine ⟨n, rfl, by omega, by omega, kq _ _ m1 H1 W1 _ st1 S1 ?_ ?_ q1.2.2⟩
      · have e := walk_r (G := G) (W := W1) 0 n.toNat
        simpa using e
      · simp only [List.length_map, List.length_range]
        show n.toNat ≤ 16777216
        omega
    · exact q1.elim
  · cases hm
theorem sni_rng2 (h : XOk Z px cm cst Φ gv k C X) {e e2 : E} {le le2 : Lk} (he : OkP Z X le (fun σ m Q => wpE Φ gv cm e σ m Q (px.at σ)) (cE cst e)) (he2 : OkP Z X le2 (fun σ m Q => wpE Φ gv cm e2 σ m Q (px.at σ)) (cE cst e2)) :
    OkI Z X (fun _ => mRng2 C le le2) (fun σ m Q => wpIt Φ gv cm (.rng2 e e2) σ m Q (px.at σ)) (cE cst e + cE cst e2) := by
  intro tg pe hm
  have hm : mRng2 C le le2 pe = true := hm
  unfold mRng2 at hm
  split at hm
  · simp only [Bool.and_eq_true, decide_eq_true_eq] at hm
    obtain ⟨⟨⟨⟨⟨h1, h2⟩, h3⟩, h4⟩, h5⟩, h6⟩ := hm
    subst h1
    obtain ⟨g1, g2, g3⟩ := bl_of h h2
    refine PI.of (pi_range2 g1 g3 (pa_cons (he _ h5) (pa_cons (he2 _ h6) pa_nil (star1 h4)) (star1 h3)) (by rw [star1 h3, star1 h4]; rfl) (by rw [star1 h4]; rfl)) ?_
    intro s H R q
    obtain ⟨W, m, σ, Q, hw, S, L, hn, kq⟩ := q
    refine ⟨W, m, σ, _, hw, S, L, by omega, fun d m1 v H1 W1 st1 S1 r q1 => ?_⟩
    have n1 := st1.n
    refine ⟨W1, m1, σ, _, q1, S1, L.mono st1.le, by omega, fun d2 m2 v2 H2 W2 st2 S2 r2 q2 => ?_⟩
    split at q2
    · rename_i a b
      cases r
      cases r2
      obtain ⟨⟨k1, k2, k3⟩, q2⟩ := q2
      have k3' : b - a ≤ 16777216 := k3
      refine ⟨a, b, rfl, ⟨by omega, by omega, by omega, by omega⟩, kq _ _ m2 H2 W2 _ (Step.trans S1 st1 st2) S2 (walk_r a (b - a).toNat) ?_ q2⟩
      simp only [List.length_map, List.length_range]
      show (b - a).toNat ≤ 16777216
      omega
    · exact q2.elim
  · cases hm
/-- a new pair at each turn -/
theorem pair_step {W' : Kn} {m' : Mu} {H' H'' : Hp} {v x y : V} {dx dy : D} {T : Addr} (S : SRel0 G W' m' H') (hv : v = .ref T) (hT : H' T = none) (e : H'' = upd H' T (.tup [x, y])) (rx : Rep G W' x dx) (ry : Rep G W' y dy) :
    ∃ W'', Rep G W'' v (.tup [dx, dy]) ∧ SRel0 G W'' m' H'' ∧ Step W' m' H' W'' m' H'' 0 := by
  subst hv e
  refine ⟨W'.new T (.tup [x, y]), .tup (xs := [x, y]) (.inl (.inl upd_same)) (.cons (Rep.mono (le_new (S.none hT).1) _ rx) (.cons (Rep.mono (le_new (S.none hT).1) _ ry) .nil)), S.new hT ?_, Step.new0 S hT⟩
  show 2 ≤ sizeLine
  decide
/-- enumerate of what stands still -/
theorem walk_E {W : Kn} {k0 : Int} {n : Nat} {go : Hp → Prop} {at_ : Nat → Option V} {ds : List D} (hn : ds.length = n) (hgo : ∀ W' m' H', Kn.le W W' → SRel0 G W' m' H' → go H') (hat : ∀ i x, at_ i = some x → ∃ d, ds[i]? = some d ∧ Rep G W x d) :
    WalkD G W (ItE k0 n go at_) ((List.range ds.length).zipWith (fun i d => D.tup [.int (k0 + (i : Nat)), d]) ds) [] := by
  have hlen : ((List.range ds.length).zipWith (fun i d => D.tup [.int (k0 + (i : Nat)), d]) ds).length = n := by rw [List.length_zipWith, List.length_range, Nat.min_self, hn]
  refine ⟨go, fun i H v H' => ∃ T x, v = .ref T ∧ H T = none ∧ H' = upd H T (.tup [.int (k0 + (i : Nat)), x]) ∧ at_ i = some x, ?_, fun W' m' H' le S' _ => hgo W' m' H' le S', fun i H' v H'' W' m' hi le S' _ y => ?_⟩
  · rw [hlen]
    exact ⟨fun i H hi q => ⟨hi, q⟩, fun H q => ⟨rfl, q⟩, fun i H x H' _ _ y => y⟩
  · obtain ⟨T, x, hv, hT, eH, e1⟩ := y
    obtain ⟨d, q1, q2⟩ := hat i x e1
    obtain ⟨W'', r1, r2, r3⟩ := pair_step S' hv hT eH (.int (k0 + (i : Nat))) (Rep.mono le _ q2)
    refine ⟨_, W'', ?_, r1, r2, r3⟩
    have hi' : i < ds.length := (List.getElem?_eq_some_iff.mp q1).1
    rw [List.getElem?_zipWith, List.getElem?_range hi', q1]
theorem walk_ET {W : Kn} {k0 : Int} {a : Addr} {xs : List V} {ds : List D} (k1 : SqT G.K W.F a xs) (k2 : RepL G W xs ds) : WalkD G W (ItE k0 xs.length (fun H => SqT G.K H a xs) (fun i => xs[i]?)) ((List.range ds.length).zipWith (fun i d => D.tup [.int (k0 + (i : Nat)), d]) ds) [] :=
  walk_E k2.length.symm (fun W' m' H' le S' => sqT_H0 S' (sqT_mono le k1)) fun i x e => k2.getV e
theorem walk_EL {W : Kn} {k0 : Int} {a : Addr} {xs : List V} {ds : List D} (k1 : W.F a = some (.lst xs)) (k2 : RepL G W xs ds) : WalkD G W (ItE k0 xs.length (fun H => SqL G.K H a xs) (fun i => xs[i]?)) ((List.range ds.length).zipWith (fun i d => D.tup [.int (k0 + (i : Nat)), d]) ds) [] :=
  walk_E k2.length.symm (fun W' m' H' le S' => .of (S'.fz _ _ (le.f _ _ k1))) fun i x e => k2.getV e
theorem walk_ES {W : Kn} {k0 : Int} {z : List Nat} : WalkD G W (ItE k0 (Str.cps ⟨z.toArray⟩).size (fun _ => True) (fun i => ((Str.cps ⟨z.toArray⟩)[i]?).map fun c => .str ⟨#[c]⟩)) ((List.range z.length).zipWith (fun i d => D.tup [.int (k0 + (i : Nat)), .str [d]]) z) [] := by
  have e := walk_E (G := G) (W := W) (k0 := k0) (n := (Str.cps ⟨z.toArray⟩).size) (go := fun _ => True) (at_ := fun i => ((Str.cps ⟨z.toArray⟩)[i]?).map fun c => .str ⟨#[c]⟩) (ds := z.map fun c => .str [c]) (by simp) (fun _ _ _ _ _ => trivial) (fun i x e => by
    have e' : (z[i]?).map (fun c => V.str ⟨#[c]⟩) = some x := by simpa using e
    cases q : z[i]? with
    | none => rw [q] at e'; cases e'
    | some c =>
      rw [q] at e'
      cases e'
      exact ⟨.str [c], by simp [q], .str [c]⟩)
  have e2 : (List.range (z.map fun c => D.str [c]).length).zipWith (fun i d => D.tup [.int (k0 + (i : Nat)), d]) (z.map fun c => .str [c]) = (List.range z.length).zipWith (fun i d => D.tup [.int (k0 + (i : Nat)), .str [d]]) z := by
    rw [List.length_map, List.zipWith_map_right]
  rw [e2] at e
  exact e
theorem len_z {α β : Type} (f : Nat → α → β) (ds : List α) : ((List.range ds.length).zipWith f ds).length = ds.length := by rw [List.length_zipWith, List.length_range, Nat.min_self]
theorem z0 {α : Type} (f : α → D) (ds : List α) : (List.range ds.length).zipWith (fun i d => D.tup [.int (i : Nat), f d]) ds = (List.range ds.length).zipWith (fun i d => D.tup [.int (0 + (i : Nat)), f d]) ds := by
  simp only [Int.zero_add]
theorem sni_enm (h : XOk Z px cm cst Φ gv k C X) {e : E} {le : Lk} (he : OkP Z X le (fun σ m Q => wpE Φ gv cm e σ m Q (px.at σ)) (cE cst e)) : OkI Z X (fun t p => isTupX t && mEnm C le p) (fun σ m Q => wpIt Φ gv cm (.enm e) σ m Q (px.at σ)) (cE cst e) := by
  intro tg pe hm
  obtain ⟨ht, hm⟩ := Bool.and_eq_true_iff.mp hm
  unfold mEnm at hm
  split at hm
  · simp only [Bool.and_eq_true, decide_eq_true_eq] at hm
    obtain ⟨⟨⟨h1, h2⟩, h3⟩, h4⟩ := hm
    subst h1
    obtain ⟨g1, g2, g3⟩ := bl_of h h2
    cases tg <;> first
      | (cases ht; done)
      | skip
    refine PI.of (pi_enumA g1 g3 (pa_cons (he _ h4) pa_nil (star1 h3)) (by rw [star1 h3]; rfl)) ?_
    intro s H R q
    obtain ⟨W, m, σ, Q, hw, S, L, hn, kq⟩ := q
    refine ⟨W, m, σ, _, hw, S, L, hn, fun d m1 v H1 W1 st1 S1 r q1 => ?_⟩
    split at q1
    · rename_i ds
      cases r with
      | lst k1 k2 =>
        rename_i a xs
        have hl : xs.length ≤ sizeLine := S1.bd _ _ (.inl (S1.fz _ _ k1))
        have hlen : ((List.range ds.length).zipWith (fun i d => D.tup [.int (i : Nat), d]) ds).length = xs.length := by rw [List.length_zipWith, List.length_range, Nat.min_self, k2.length]
        refine .inl ⟨a, xs, rfl, .of (S1.fz _ _ k1), kq _ _ m1 H1 W1 _ st1 S1 ?_ (by rw [hlen, line_eq]; exact hl) q1⟩
        refine ⟨fun H => SqL X.K H a xs, _, by rw [hlen]; exact walk_enum, fun W' m' H' le S' _ => .of (S'.fz _ _ (le.f _ _ k1)), fun i H' v H'' W' m' hi le S' _ y => ?_⟩
        obtain ⟨T, x, y, hv, hT, eH, e1, e2⟩ := y
        cases e1
        obtain ⟨d, q1, q2⟩ := k2.getV e2
        obtain ⟨W'', r1, r2, r3⟩ := pair_step S' hv hT eH (.int ((i : Nat) : Int)) (Rep.mono le _ q2)
        refine ⟨_, W'', ?_, r1, r2, r3⟩
        have hi' : i < ds.length := (List.getElem?_eq_some_iff.mp q1).1
        rw [List.getElem?_zipWith, List.getElem?_range hi', q1]
    · rename_i ds
      cases r with
      | tup k1 k2 =>
        rename_i a xs
        have hl : xs.length ≤ sizeLine := tup_len S1 k1
        refine .inr (.inl ⟨a, xs, rfl, by rw [h.K]; exact sqT_H S1 k1, ?_⟩)
        rw [h.K]
        refine kq _ _ m1 H1 W1 _ st1 S1 ?_ ?_ q1
        · have e := z0 (fun d => d) ds
          rw [e]
          exact walk_ET k1 k2
        · rw [len_z (fun i d => D.tup [.int (i : Nat), d]) ds, ← k2.length, line_eq]
          exact hl
    · rename_i z
      cases r
      obtain ⟨hl, q1⟩ := q1
      refine .inr (.inr ⟨_, rfl, kq _ _ m1 H1 W1 _ st1 S1 ?_ ?_ q1⟩)
      · have e := z0 (fun d => D.str [d]) z
        rw [e]
        exact walk_ES
      · rw [len_z (fun i d => D.tup [.int (i : Nat), .str [d]]) z]
        exact hl
    · rename_i a
      cases r
      obtain ⟨ds, e1, q1⟩ := q1
      obtain ⟨vs, k1, k2⟩ := S1.bx a _ e1
      have hl : vs.length ≤ sizeLine := S1.bd _ _ (.inl k1)
      have hlen : ((List.range ds.length).zipWith (fun i d => D.tup [.int (i : Nat), d]) ds).length = vs.length := by rw [List.length_zipWith, List.length_range, Nat.min_self, k2.length]
      refine .inl ⟨a, vs, rfl, .of k1, kq _ _ m1 H1 W1 _ st1 S1 ?_ (by rw [hlen, line_eq]; exact hl) q1⟩
      refine ⟨fun H => ∃ ys, H a = some (.lst ys) ∧ ys.length = vs.length, (Ite X.K a).yld, ?_, fun W' m' H' le S' gd => ?_, fun i H' v H'' W' m' hi le S' gd y => ?_⟩
      · rw [hlen]
        refine ⟨fun i H hi q => ?_, fun H q => ?_, fun i H v H' _ _ y => y⟩
        · obtain ⟨ys, e, el⟩ := q
          exact ⟨ys, ys[i]'(by omega), .of e, by simp [show i < ys.length by omega]⟩
        · obtain ⟨ys, e, el⟩ := q
          exact ⟨ys, .of e, Nat.le_of_eq el⟩
      · obtain ⟨ys, h1, h2⟩ := S'.bx a _ (gd _ (List.mem_singleton.mpr rfl))
        exact ⟨ys, h1, by rw [h2.length, k2.length]⟩
      · obtain ⟨ys, h1, h2⟩ := S'.bx a _ (gd _ (List.mem_singleton.mpr rfl))
        obtain ⟨T, x, hv, hT, eH, e2⟩ := y
        obtain ⟨d, q1, q2⟩ := h2.getV (e2 ys (.of h1))
        obtain ⟨W'', r1, r2, r3⟩ := pair_step S' hv hT eH (.int ((i : Nat) : Int)) q2
        refine ⟨_, W'', ?_, r1, r2, r3⟩
        have hi' : i < ds.length := (List.getElem?_eq_some_iff.mp q1).1
        rw [List.getElem?_zipWith, List.getElem?_range hi', q1]
    · exact q1.elim
  · cases hm
theorem sni_en1 (h : XOk Z px cm cst Φ gv k C X) {e : E} {le : Lk} (he : OkP Z X le (fun σ m Q => wpE Φ gv cm e σ m Q (px.at σ)) (cE cst e)) : OkI Z X (fun t p => isTupX t && mEn1 C le p) (fun σ m Q => wpIt Φ gv cm (.en1 e) σ m Q (px.at σ)) (cE cst e) := by
  intro tg pe hm
  obtain ⟨ht, hm⟩ := Bool.and_eq_true_iff.mp hm
  unfold mEn1 at hm
  split at hm
  · simp only [Bool.and_eq_true, decide_eq_true_eq] at hm
    obtain ⟨⟨⟨⟨h1, h0⟩, h2⟩, h3⟩, h4⟩ := hm
    subst h1
    subst h0
    obtain ⟨g1, g2, g3⟩ := bl_of h h2
    cases tg <;> first
      | (cases ht; done)
      | skip
    refine PI.of (pi_enum1 g1 g3 (pa_cons (he _ h4) pa_nil (star1 h3)) (by rw [star1 h3]; rfl)) ?_
    intro s H R q
    obtain ⟨W, m, σ, Q, hw, S, L, hn, kq⟩ := q
    refine ⟨W, m, σ, _, hw, S, L, hn, fun d m1 v H1 W1 st1 S1 r q1 => ?_⟩
    split at q1
    · rename_i ds
      cases r with
      | lst k1 k2 =>
        rename_i a xs
        have hl : xs.length ≤ sizeLine := S1.bd _ _ (.inl (S1.fz _ _ k1))
        refine .inl ⟨a, xs, rfl, .of (S1.fz _ _ k1), ?_⟩
        rw [h.K]
        refine kq _ _ m1 H1 W1 _ st1 S1 (walk_EL k1 k2) ?_ q1
        rw [len_z (fun i d => D.tup [.int (1 + (i : Nat)), d]) ds, ← k2.length, line_eq]
        exact hl
    · rename_i ds
      cases r with
      | tup k1 k2 =>
        rename_i a xs
        have hl : xs.length ≤ sizeLine := tup_len S1 k1
        refine .inr (.inl ⟨a, xs, rfl, by rw [h.K]; exact sqT_H S1 k1, ?_⟩)
        rw [h.K]
        refine kq _ _ m1 H1 W1 _ st1 S1 (walk_ET k1 k2) ?_ q1
        rw [len_z (fun i d => D.tup [.int (1 + (i : Nat)), d]) ds, ← k2.length, line_eq]
        exact hl
    · rename_i z
      cases r
      obtain ⟨hl, q1⟩ := q1
      refine .inr (.inr ⟨_, rfl, kq _ _ m1 H1 W1 _ st1 S1 walk_ES ?_ q1⟩)
      rw [len_z (fun i d => D.tup [.int (1 + (i : Nat)), .str [d]]) z]
      exact hl
    · exact q1.elim
  · cases hm
theorem walk_zipT {K : PySem.W.Frag} {a b : Addr} {xs ys : List V} {n : Nat} (hn : n = min xs.length ys.length) : Walk (RZ.ItzT K a b) n (fun H => SqT K H a xs ∧ SqT K H b ys) (YPair (fun i => xs[i]?) (fun i => ys[i]?)) := by
  subst hn
  refine ⟨fun i _ hi q => ?_, fun _ q => ⟨xs, ys, q.1, q.2, by omega⟩, fun i H v H' _ q y => ?_⟩
  · exact ⟨xs, ys, xs[i]'(by omega), ys[i]'(by omega), q.1, q.2, List.getElem?_eq_getElem _, List.getElem?_eq_getElem _⟩
  · obtain ⟨T, x, y, h1, h2, h3, h4, h5⟩ := y
    exact ⟨T, x, y, h1, h2, h3, h4 xs q.1, h5 ys q.2⟩
theorem gd_left {g1 g2 : List (Nat × List D)} {m : Mu} (h : Gd (g1 ++ g2) m) : Gd g1 m := fun p hp => h p (List.mem_append_left _ hp)
theorem gd_right {g1 g2 : List (Nat × List D)} {m : Mu} (h : Gd (g1 ++ g2) m) : Gd g2 m := fun p hp => h p (List.mem_append_right _ hp)
/-- a list, frozen or in a box that stays -/
theorem lst_src {W : Kn} {m : Mu} {H : Hp} {x : V} {d : D} {ds : List D} (S : SRel0 G W m H) (r : Rep G W x d) (e : rd m d = .lst ds) : ∃ a, x = .ref a ∧ ∀ W' m' H', Kn.le W W' → SRel0 G W' m' H' → Gd (gsR m d) m' → ∃ xs, H' a = some (.lst xs) ∧ RepL G W' xs ds := by
  cases d with
  | lst es =>
    cases e
    cases r with
    | lst k1 k2 => exact ⟨_, rfl, fun W' m' H' le S' _ => ⟨_, S'.fz _ _ (le.f _ _ k1), RepL.mono le _ k2⟩⟩
  | ref a =>
    cases r
    unfold rd at e
    cases q : m a with
    | none => simp [q] at e
    | some o =>
      cases o with
      | lst es =>
        simp only [q] at e
        cases e
        refine ⟨a, rfl, fun W' m' H' le S' gd => ?_⟩
        have : gsR m (.ref a) = [(a, ds)] := by simp only [gsR, q]
        rw [this] at gd
        exact S'.bx a _ (gd _ (List.mem_singleton.mpr rfl))
      | dct _ => simp [q] at e
      | ins _ _ => simp [q] at e
  | _ => cases e
theorem gd_self {W : Kn} {m : Mu} (d : D) : Gd (gsR m d) m := by
  intro p hp
  cases d with
  | ref a =>
    cases q : m a with
    | none => simp [gsR, q] at hp
    | some o =>
      cases o with
      | lst es =>
        simp only [gsR, q, List.mem_singleton] at hp
        subst hp
        exact q
      | dct _ => simp [gsR, q] at hp
      | ins _ _ => simp [gsR, q] at hp
  | _ => cases hp
theorem sni_zip (h : XOk Z px cm cst Φ gv k C X) {e e2 : E} {le le2 : Lk} (he : OkP Z X le (fun σ m Q => wpE Φ gv cm e σ m Q (px.at σ)) (cE cst e)) (he2 : OkP Z X le2 (fun σ m Q => wpE Φ gv cm e2 σ m Q (px.at σ)) (cE cst e2)) :
    OkI Z X (fun t p => isTupX t && mZip C le le2 p) (fun σ m Q => wpIt Φ gv cm (.zip e e2) σ m Q (px.at σ)) (cE cst e + cE cst e2) := by
  intro tg pe hm
  obtain ⟨ht, hm⟩ := Bool.and_eq_true_iff.mp hm
  unfold mZip at hm
  split at hm
  · simp only [Bool.and_eq_true, decide_eq_true_eq] at hm
    obtain ⟨⟨⟨⟨⟨h1, h2⟩, h3⟩, h4⟩, h5⟩, h6⟩ := hm
    subst h1
    obtain ⟨g1, g2, g3⟩ := bl_of h h2
    cases tg <;> first
      | (cases ht; done)
      | skip
    refine PI.of (RZ.pi_zipA g1 g3 (pa_cons (he _ h5) (pa_cons (he2 _ h6) pa_nil (star1 h4)) (star1 h3)) (star1 h3) (by rw [star1 h4]; rfl)) ?_
    intro s H R q
    obtain ⟨W, m, σ, Q, hw, S, L, hn, kq⟩ := q
    refine ⟨W, m, σ, _, hw, S, L, by omega, fun d m1 v H1 W1 st1 S1 r q1 => ?_⟩
    have n1 := st1.n
    refine ⟨W1, m1, σ, _, q1, S1, L.mono st1.le, by omega, fun d2 m2 v2 H2 W2 st2 S2 r2 q2 => ?_⟩
    have r' := Rep.mono st2.le _ r
    split at q2
    · rename_i as bs ea eb
      obtain ⟨a, rfl, pa⟩ := lst_src S2.toSRel0 r' ea
      obtain ⟨b, rfl, pb⟩ := lst_src S2.toSRel0 r2 eb
      obtain ⟨xs, a1, a2⟩ := pa W2 m2 H2 (Kn.le.refl _) S2.toSRel0 (gd_self (W := W2) d)
      obtain ⟨ys, b1, b2⟩ := pb W2 m2 H2 (Kn.le.refl _) S2.toSRel0 (gd_self (W := W2) d2)
      have hl : xs.length ≤ sizeLine := S2.bd _ _ (.inl a1)
      have hlen : (List.zipWith (fun x y => D.tup [x, y]) as bs).length = min as.length bs.length := List.length_zipWith
      have ea2 := a2.length
      have eb2 := b2.length
      refine ⟨a, b, xs, ys, rfl, .inl ⟨.of a1, .of b1, kq _ _ m2 H2 W2 _ (Step.trans S1 st1 st2) S2 ?_ (by rw [hlen, line_eq]; omega) q2⟩⟩
      refine ⟨fun H => ∃ us vs, H a = some (.lst us) ∧ H b = some (.lst vs) ∧ us.length = as.length ∧ vs.length = bs.length, (Itz X.K a b).yld, ?_, fun W' m' H' le S' gd => ?_, fun i H' v H'' W' m' hi le S' gd y => ?_⟩
      · rw [hlen]
        refine ⟨fun i H hi q => ?_, fun H q => ?_, fun i H v H' _ _ y => y⟩
        · obtain ⟨us, vs, u1, v1, u2, v2⟩ := q
          exact ⟨us, vs, us[i]'(by omega), vs[i]'(by omega), .of u1, .of v1, List.getElem?_eq_getElem _, List.getElem?_eq_getElem _⟩
        · obtain ⟨us, vs, u1, v1, u2, v2⟩ := q
          exact ⟨us, vs, .of u1, .of v1, by omega⟩
      · obtain ⟨us, u1, u2⟩ := pa W' m' H' le S' (gd_left gd)
        obtain ⟨vs, v1, v2⟩ := pb W' m' H' le S' (gd_right gd)
        exact ⟨us, vs, u1, v1, u2.length, v2.length⟩
      · obtain ⟨us, u1, u2⟩ := pa W' m' H' le S' (gd_left gd)
        obtain ⟨vs, v1, v2⟩ := pb W' m' H' le S' (gd_right gd)
        obtain ⟨T, x, y, hv, hT, eH, e1, e2⟩ := y
        obtain ⟨d1, q1, p1⟩ := u2.getV (e1 us (.of u1))
        obtain ⟨d2, q2, p2⟩ := v2.getV (e2 vs (.of v1))
        obtain ⟨W'', r1, r2, r3⟩ := pair_step S' hv hT eH p1 p2
        exact ⟨_, W'', by simp [List.getElem?_zipWith, q1, q2], r1, r2, r3⟩
    · rename_i as bs ea eb
      obtain ⟨a, xs, rfl, t1, k2⟩ := rd_tup S2 r' ea
      obtain ⟨b, ys, rfl, t2, k4⟩ := rd_tup S2 r2 eb
      cases d with
      | tup as' =>
        cases d2 with
        | tup bs' =>
          cases ea
          cases eb
          cases r' with
          | tup k1 k2' =>
            cases r2 with
            | tup k3 k4' =>
              rename_i xs' ys'
              have hl : xs'.length ≤ sizeLine := tup_len S2 k1
              have hlen : (List.zipWith (fun x y => D.tup [x, y]) as bs).length = min xs'.length ys'.length := by rw [List.length_zipWith, k2'.length, k4'.length]
              have t1 : SqT X.K H2 a xs' := by rw [h.K]; exact sqT_H S2 k1
              have t2 : SqT X.K H2 b ys' := by rw [h.K]; exact sqT_H S2 k3
              refine ⟨a, b, xs', ys', rfl, .inr ⟨t1, t2, kq _ _ m2 H2 W2 _ (Step.trans S1 st1 st2) S2 ?_ (by rw [hlen, line_eq]; omega) q2⟩⟩
              refine ⟨fun H => SqT X.K H a xs' ∧ SqT X.K H b ys', _, by rw [hlen]; exact walk_zipT rfl, fun W' m' H' le S' _ => ⟨by rw [h.K]; exact sqT_H0 S' (sqT_mono le k1), by rw [h.K]; exact sqT_H0 S' (sqT_mono le k3)⟩, fun i H' v H'' W' m' hi le S' _ y => ?_⟩
              obtain ⟨T, x, y, hv, hT, eH, e1, e2⟩ := y
              obtain ⟨d1, q1, p1⟩ := k2'.getV e1
              obtain ⟨d2, q2, p2⟩ := k4'.getV e2
              obtain ⟨W'', r1, r2, r3⟩ := pair_step S' hv hT eH (Rep.mono le _ p1) (Rep.mono le _ p2)
              exact ⟨_, W'', by simp [List.getElem?_zipWith, q1, q2], r1, r2, r3⟩
        | ref b' => exact absurd eb (by intro z; unfold rd at z; cases q : m2 b' with
          | none => simp [q] at z
          | some o => cases o <;> simp [q] at z)
        | _ => cases eb
      | ref a' => exact absurd ea (by intro z; unfold rd at z; cases q : m2 a' with
          | none => simp [q] at z
          | some o => cases o <;> simp [q] at z)
      | _ => cases ea
    · exact q2.elim
  · cases hm
/-! ### comprehensions -/
theorem SRel0.unk {W : Kn} {m : Mu} {H : Hp} {D : Addr} {o o' : HO} (S : SRel0 G W m H) (h : H D = some o) (hf : W.F D = .none) (hm : m D = .none) (hd : ¬ drA W D) (ho : seqO o') : SRel0 G W m (upd H D o') := by
  refine ⟨fun b u q => ?_, fun b u q => ?_, S.dj, fun t ht => ?_, S.drF, S.dri, S.drn, fun b xs q => ?_⟩
  · have : b ≠ D := fun z => by rw [z, hf] at q; cases q
    rw [upd_ne this]
    exact S.fz b u q
  · have : b ≠ D := fun z => by rw [z, hm] at q; cases q
    exact (S.bx b u q).mono (Kn.le.refl W) (upd_ne this)
  · refine (S.dr t ht).same (fun b i => upd_ne fun z => hd ⟨t, ht, z ▸ i⟩) (Nat.le_refl _)
  · by_cases hb : b = D
    · subst hb
      rw [upd_same] at q
      rcases q with q | q | ⟨z, q⟩
      · have q' := Option.some.inj q
        subst q'
        exact ho
      · have q' := Option.some.inj q
        subst q'
        exact ho
      · have q' := Option.some.inj q
        subst q'
        exact ho.elim
    · rw [upd_ne hb] at q
      exact S.bd b xs q
theorem SRel0.freeze {W : Kn} {m : Mu} {H : Hp} {D : Addr} {o : HO} (S : SRel0 G W m H) (h : H D = some o) (hf : W.F D = .none) (hm : m D = .none) (hd : ¬ drA W D) : SRel0 G (W.new D o) m H := by
  have e := le_new (W := W) (o := o) hf
  refine ⟨fun b u q => ?_, fun b u q => (S.bx b u q).mono e rfl, fun b u q => ?_, S.dr, fun b q => ?_, S.dri, S.drn, S.bd⟩
  · by_cases hb : b = D
    · subst hb
      have q' : upd W.F b o b = some u := q
      rw [upd_same] at q'
      rw [h]
      exact q'
    · have q' : upd W.F D o b = some u := q
      rw [upd_ne hb] at q'
      exact S.fz b u q'
  · have : b ≠ D := fun z => by rw [z, hm] at q; cases q
    show upd W.F D o b = .none
    rw [upd_ne this]
    exact S.dj b u q
  · obtain ⟨k1, k2⟩ := S.drF b q
    refine ⟨?_, k2⟩
    have : b ≠ D := fun z => hd (z ▸ q)
    show upd W.F D o b = .none
    rw [upd_ne this]
    exact k1
theorem relSc_eq (scope sc : Scope) : relSc scope sc = relS scope sc := rfl
theorem takes_no {Z : Zs G} (h : X.pn = X.pn) : Takes X (wishX Z pF) := fun _ _ ⟨_, _, _, _, _, _, _, _, _, _, _, _, _, _, _, _, w⟩ => by
  obtain ⟨_, _, _, _, _, _, _, _, z⟩ := w
  exact z.elim
theorem XOk.blk (h : XOk Z px cm cst Φ gv k C X) (s : Shared) (H : Hp) (scope : Scope) (D : Addr) (cl : List (Str × Addr)) (fp : List Addr) (hc : cm = true) : XOk Z.triv pF cm cst Φ gv k (C.blk scope) (X.blk s H scope (compEnvC scope cl D X.env) fp) := by
  refine ⟨h.N, h.nd, ?_, fun x hx => hx, h.K, h.calm, h.room, h.rooH, h.lim, takes_no rfl, fun _ => rfl, h.call, h.callN, h.glob, h.bl, h.ex, fun _ _ z => (by cases z), fun _ => rfl, h.k2, h.ow⟩
  · show relabel scope X.env = relSc scope C.sc
    rw [← h.sc]
    rfl
theorem own_snd (N : List Str) : ∀ l : List Nat, (ownN N l).map (·.2) = l
  | [] => rfl
  | i :: r => by
    show i :: (ownN N r).map (·.2) = i :: r
    rw [own_snd N r]
/-- the test of a comprehension, or none -/
abbrev OkTs {G : Gs} (Z : Zs G) (X : Cx) (l : List Expr → Bool) (w : Env → Mu → (Bool → Mu → Prop) → Prop) (c : Nat) : Prop := ∀ pes, l pes = true → PTs X pes (tT Z w c)
theorem snts_none : OkTs Z X (fun ps => ps.isEmpty) (fun σ m Q => wpTo Φ gv cm .none σ m Q (px.at σ)) 0 := by
  intro pes hm
  cases pes with
  | nil =>
    refine ⟨fun pins s σ H Q I q => ?_⟩
    obtain ⟨W, m, σ1, Q1, hw, S, L, hn, kq⟩ := q
    exact pts_nil.run pins s σ H Q I (kq true m H W (Step.refl ..) S hw)
  | cons _ _ => cases hm
theorem snts_some {e : E} {le : Lk} (he : OkT Z X le (fun σ m Q => wpT Φ gv cm e σ m Q (px.at σ)) (cE cst e)) : OkTs Z X (fun ps => match ps with
    | [p] => le p
    | _ => false) (fun σ m Q => wpTo Φ gv cm (.some e) σ m Q (px.at σ)) (cE cst e) := by
  intro pes hm
  cases pes with
  | nil => cases hm
  | cons p r =>
    cases r with
    | nil => exact pts_one (he p hm)
    | cons _ _ => cases hm
theorem foldedSet_of {e : Expr} (h : notSet e = true) (env : PySem.Env) : ∀ x, foldedSetIterable e env x = pure x := by
  cases e <;> first | (intro _; rfl) | cases h
theorem comp_turnsG {own : List Nat} {p : Pt} {elt : E} {c : Eo} (hp : ptIn own p = true) {s : List (Option V)} {σ : Env} {Q : List Pk.D → Mu → Prop} {QV : VK} {W0 W1 : Kn} {m0 m1 : Mu} {H0 H1 : Hp} {J : L2.It} {items : List D} {gs : List (Nat × List D)} {D : Addr} {c0 : Nat}
    (st1 : Step W0 m0 H0 W1 m1 H1 c0) (S1 : SRel0 G W1 m1 H1) (L : SlotR Z.triv W1 σ s) (wk : WalkD G W1 J items gs) (hlen : items.length ≤ line) (hD : H1 D = none) (hn : W0.n + (c0 + line * (cEo cst c + cE cst elt)) ≤ Z.lim)
    (q : compL gs p (fun σ2 m2 R => wpTo Φ gv cm c σ2 m2 (fun b m3 => if b = true then wpE Φ gv cm elt σ2 m3 (fun d m4 => R (some d) m4) NoX else R none m3) NoX) (wipeE σ own) items m1 [] fun acc m2 => Q acc m2)
    (kq : ∀ acc accV m' H' W', H' D = some (.lst accV) → W'.F D = none → m' D = none → ¬ drA W' D → RepL G W' accV acc → SRel0 G W' m' H' → Step W1 m1 H1 W' m' H' (line * (cEo cst c + cE cst elt)) → Q acc m' → QV (.ref D) H') :
    ∃ Wi : Nat → Nat → Hp → Prop, (∃ n, Wi 0 n (upd H1 D (.lst []))) ∧ ∀ i n H, Wi i n H →
      (J.stop i H ∧ QV (.ref D) H) ∨ (J.go i H ∧ ∃ Nx : Hp → Prop, (∀ H', Nx H' → ∃ n', n' < n ∧ Wi (i + 1) n' H') ∧ ∀ x H', J.yld i H x H' → tGp Z.triv p x (L2.wipe s own) H' fun σ2 H2 => L2.wipe σ2 own = L2.wipe s own ∧
        tT Z.triv (fun σ m Q => wpTo Φ gv cm c σ m Q (pF.at σ)) (cEo cst c) σ2 H2 fun b H3 => if b = true then tE Z.triv (fun σ m Q => wpE Φ gv cm elt σ m Q (pF.at σ)) (cE cst elt) σ2 H3 fun y H4 => ∃ acc, H4 D = some (.lst acc) ∧ acc.length < sizeLine ∧ Nx (upd H4 D (.lst (acc ++ [y]))) else Nx H3) := by
  obtain ⟨P, Y, wk, wP, wY⟩ := wk
  obtain ⟨f1, f2, f3⟩ := S1.none hD
  refine lc_it wk (fun i H => ∃ (W' : Kn) (m' : Mu) (acc : List Pk.D) (accV : List V), H D = some (.lst accV) ∧ W'.F D = none ∧ m' D = none ∧ ¬ drA W' D ∧ RepL G W' accV acc ∧ accV.length ≤ i ∧ SRel0 G W' m' H ∧ Step W1 m1 H1 W' m' H (i * (cEo cst c + cE cst elt)) ∧
    compL gs p (fun σ2 m2 R => wpTo Φ gv cm c σ2 m2 (fun b m3 => if b = true then wpE Φ gv cm elt σ2 m3 (fun d m4 => R (some d) m4) NoX else R none m3) NoX) (wipeE σ own) (items.drop i) m' acc fun acc m2 => Q acc m2) ?_ ?_ ?_ ?_
  · refine ⟨W1, m1, [], [], upd_same, f1, f2, f3, .nil, Nat.le_refl _, ?_, ?_, by simpa using q⟩
    · have ne : ∀ {b : Addr} {u : HO}, H1 b = some u → b ≠ D := fun {b u} q z => by rw [z, hD] at q; cases q
      refine ⟨fun b u q => ?_, fun b u q => ?_, S1.dj, fun t ht => ?_, S1.drF, S1.dri, S1.drn, fun b xs q => ?_⟩
      · rw [upd_ne (ne (S1.fz b u q))]
        exact S1.fz b u q
      · obtain ⟨x, hx⟩ := (S1.bx b u q).there
        exact (S1.bx b u q).mono (Kn.le.refl W1) (upd_ne (ne hx))
      · refine (S1.dr t ht).same (fun b i => ?_) (Nat.le_refl _)
        obtain ⟨xs, e⟩ := (S1.dr t ht).there i
        exact upd_ne (ne e)
      · by_cases hb : b = D
        · subst hb
          rw [upd_same] at q
          rcases q with q | q | ⟨z, q⟩
          · have q' := Option.some.inj q
            cases q'
            exact Nat.zero_le _
          · have q' := Option.some.inj q
            cases q'
          · have q' := Option.some.inj q
            cases q'
        · rw [upd_ne hb] at q
          exact S1.bd b xs q
    · have ne : ∀ {b : Addr} {u : HO}, H1 b = some u → b ≠ D := fun {b u} q z => by rw [z, hD] at q; cases q
      exact ⟨Kn.le.refl _, fun b u q _ _ => by rw [upd_ne (ne q)]; exact q, fun b u q k1 k2 _ => ⟨k1, k2⟩, fun _ _ _ q => q, fun b u q => ⟨u, by rw [upd_ne (ne q)]; exact q⟩, Nat.le_add_right _ _⟩
  · rintro i H hi ⟨W', m', acc, accV, e1, e2, e3, e4, e5, e6, S', st', q'⟩
    refine wP W' m' H st'.le S' ?_
    cases hd : items.drop i with
    | nil => rw [hd] at q'; exact q'.1
    | cons _ _ => rw [hd] at q'; exact q'.1
  · rintro i x H H' hi ⟨W', m', acc, accV, e1, e2, e3, e4, e5, e6, S', st', q'⟩ y
    have hd : items.drop i = items[i] :: items.drop (i + 1) := List.drop_eq_getElem_cons hi
    rw [hd] at q'
    obtain ⟨gd, σ', hb, q'⟩ := q'
    obtain ⟨d, W'', g1, g2, S'', st''⟩ := wY i H x H' W' m' hi st'.le S' gd y
    have hdd : d = items[i] := by
      rw [List.getElem?_eq_getElem hi] at g1
      exact (Option.some.inj g1).symm
    subst hdd
    have L' : SlotR Z.triv W'' (wipeE σ own) (L2.wipe s own) := ((L.wipe own).mono st'.le).mono st''.le
    obtain ⟨d1, d2, d3⟩ := Step.mk1 S'' st'' e1 e3 e4
    have dF := (st''.uk D _ e1 e2 e3 e4).1
    have nn1 := st'.n
    have nn2 := st''.n
    have nn3 := st1.n
    have hi2 : i < line := Nat.lt_of_lt_of_le hi hlen
    have hmul : i * (cEo cst c + cE cst elt) + (cEo cst c + cE cst elt) ≤ line * (cEo cst c + cE cst elt) := by
      rw [← Nat.succ_mul]
      exact Nat.mul_le_mul_right _ hi2
    refine ⟨W'', m', _, _, σ', hb, S''.triv, L', g2, fun s2 L2' hw => ?_⟩
    refine ⟨by rw [hw own hp, wipe_wipe], ?_⟩
    refine ⟨W'', m', σ', _, q', S''.triv, L2', (by show _ ≤ Z.lim; omega), fun b m3 H3 W3 st3 Z3 q3 => ?_⟩
    have S3 := Z3.toSRel0
    have nn4 := st3.n
    obtain ⟨t1, t2, t3⟩ := Step.mk1 S3 st3 d1 d2 d3
    have tF := (st3.uk D _ d1 dF d2 d3).1
    have stA : Step W1 m1 H1 W3 m3 H3 (i * (cEo cst c + cE cst elt) + 0 + cEo cst c) := Step.trans0 S'' (Step.trans0 S' st' st'') st3
    cases b with
    | false =>
      rw [if_neg Bool.false_ne_true] at q3
      refine iteF ?_
      refine ⟨W3, m3, acc, accV, t1, tF, t2, t3, RepL.mono st3.le _ (RepL.mono st''.le _ e5), by omega, S3, stA.weak (by rw [Nat.succ_mul]; omega), q3⟩
    | true =>
      rw [if_pos rfl] at q3
      refine iteT ?_
      refine ⟨W3, m3, σ', _, q3, S3.triv, L2'.mono st3.le, (by show _ ≤ Z.lim; omega), fun dv m4 v H4 W4 st4 Z4 r4 q4 => ?_⟩
      have S4 := Z4.toSRel0
      obtain ⟨u1, u2, u3⟩ := Step.mk1 S4 st4 t1 t2 t3
      have uF := (st4.uk D _ t1 tF t2 t3).1
      have hacc : accV.length < sizeLine := by
        have : line = sizeLine := line_eq
        omega
      refine ⟨accV, u1, hacc, W4, m4, acc ++ [dv], accV ++ [v], upd_same, uF, u2, u3, (RepL.mono st4.le _ (RepL.mono st3.le _ (RepL.mono st''.le _ e5))).append (.cons r4 .nil), by simp; omega, ?_, ?_, q4⟩
      · exact S4.unk u1 uF u2 u3 (by show (accV ++ [v]).length ≤ sizeLine; simp; omega)
      · have stB : Step W1 m1 H1 W4 m4 H4 (i * (cEo cst c + cE cst elt) + 0 + cEo cst c + cE cst elt) := Step.trans0 S3 stA st4
        have ne : ∀ {b : Addr} {u : HO}, H1 b = some u → b ≠ D := fun {b u} q z => by rw [z, hD] at q; cases q
        refine ⟨stB.le, fun b o q k1 k2 => by rw [upd_ne (ne q)]; exact stB.kp b o q k1 k2, stB.uk, stB.dk, fun b o q => by rw [upd_ne (ne q)]; exact stB.th b o q, ?_⟩
        have := stB.n
        rw [Nat.succ_mul]
        omega
  · rintro H ⟨W', m', acc, accV, e1, e2, e3, e4, e5, e6, S', st', q'⟩
    rw [List.drop_length] at q'
    have nn1 := st'.n
    have nn3 := st1.n
    have hmul : items.length * (cEo cst c + cE cst elt) ≤ line * (cEo cst c + cE cst elt) := Nat.mul_le_mul_right _ hlen
    exact kq acc accV m' H W' e1 e2 e3 e4 e5 S' (st'.weak hmul) q'.2
theorem comp_turns {own : List Nat} {p : Pt} {elt : E} {c : Eo} (hp : ptIn own p = true) {s : List (Option V)} {σ : Env} {Q : Pq} {QV : VK} {W0 W1 : Kn} {m0 m1 : Mu} {H0 H1 : Hp} {J : L2.It} {items : List D} {gs : List (Nat × List D)} {D : Addr} {c0 : Nat}
    (st1 : Step W0 m0 H0 W1 m1 H1 c0) (S1 : SRel0 G W1 m1 H1) (L : SlotR Z.triv W1 σ s) (wk : WalkD G W1 J items gs) (hlen : items.length ≤ line) (hD : H1 D = none) (hn : W0.n + (c0 + line * (cEo cst c + cE cst elt)) ≤ Z.lim)
    (q : compL gs p (fun σ2 m2 R => wpTo Φ gv cm c σ2 m2 (fun b m3 => if b = true then wpE Φ gv cm elt σ2 m3 (fun d m4 => R (some d) m4) NoX else R none m3) NoX) (wipeE σ own) items m1 [] fun acc m2 => Q (.lst acc) m2)
    (kq : ∀ d m' v H' W', Step W0 m0 H0 W' m' H' (c0 + line * (cEo cst c + cE cst elt)) → SRel0 G W' m' H' → Rep G W' v d → Q d m' → QV v H') :
    ∃ Wi : Nat → Nat → Hp → Prop, (∃ n, Wi 0 n (upd H1 D (.lst []))) ∧ ∀ i n H, Wi i n H →
      (J.stop i H ∧ QV (.ref D) H) ∨ (J.go i H ∧ ∃ Nx : Hp → Prop, (∀ H', Nx H' → ∃ n', n' < n ∧ Wi (i + 1) n' H') ∧ ∀ x H', J.yld i H x H' → tGp Z.triv p x (L2.wipe s own) H' fun σ2 H2 => L2.wipe σ2 own = L2.wipe s own ∧
        tT Z.triv (fun σ m Q => wpTo Φ gv cm c σ m Q (pF.at σ)) (cEo cst c) σ2 H2 fun b H3 => if b = true then tE Z.triv (fun σ m Q => wpE Φ gv cm elt σ m Q (pF.at σ)) (cE cst elt) σ2 H3 fun y H4 => ∃ acc, H4 D = some (.lst acc) ∧ acc.length < sizeLine ∧ Nx (upd H4 D (.lst (acc ++ [y]))) else Nx H3) := by
  refine comp_turnsG (Q := fun acc m2 => Q (.lst acc) m2) hp st1 S1 L wk hlen hD hn q ?_
  intro acc accV m' H W' e1 e2 e3 e4 e5 S' st' q'
  have ne : ∀ {b : Addr} {u : HO}, H1 b = some u → b ≠ D := fun {b u} q z => by rw [z, hD] at q; cases q
  have le2 := le_new (W := W') (o := .lst accV) e2
  refine kq (.lst acc) m' (.ref D) H (W'.new D (.lst accV)) ?_ (S'.freeze e1 e2 e3 e4) (.lst (by show upd W'.F D _ D = _; exact upd_same) (RepL.mono le2 _ e5)) q'
  have st2 : Step W1 m1 H1 (W'.new D (.lst accV)) m' H (line * (cEo cst c + cE cst elt)) := by
    refine ⟨st'.le.trans le2, st'.kp, fun b o q k1 k2 k3 => ?_, st'.dk, st'.th, st'.n⟩
    obtain ⟨z1, z2⟩ := st'.uk b o q k1 k2 k3
    refine ⟨?_, z2⟩
    show upd W'.F D (.lst accV) b = none
    rw [upd_ne (ne q)]
    exact z1
  exact Step.trans0 S1 st1 st2
theorem SRel0.boxUp {W : Kn} {m : Mu} {H : Hp} {p : Addr} {ds : List D} {vs : List V} (S : SRel0 G W m H) (hp : H p = some (.lst vs)) (hF : W.F p = Option.none) (hd : ¬ drA W p) (r : RepL G W vs ds) : SRel0 G W (mup m p (some (.lst ds))) H := by
  have me : ∀ {b : Addr}, b ≠ p → mup m p (some (.lst ds)) b = m b := fun {b} hb => by show (if b = p then _ else m b) = m b; rw [if_neg hb]
  have mp : mup m p (some (.lst ds)) p = some (.lst ds) := by show (if p = p then _ else _) = _; rw [if_pos rfl]
  refine ⟨S.fz, fun b u q => ?_, fun b u q => ?_, S.dr, fun b q => ?_, S.dri, S.drn, S.bd⟩
  · by_cases hb : b = p
    · subst hb
      rw [mp] at q
      cases q
      exact ⟨vs, hp, r⟩
    · rw [me hb] at q
      exact S.bx b u q
  · by_cases hb : b = p
    · rw [hb]; exact hF
    · rw [me hb] at q
      exact S.dj b u q
  · obtain ⟨k1, k2⟩ := S.drF b q
    have : b ≠ p := fun z => hd (z ▸ q)
    exact ⟨k1, (me this).trans k2⟩
/-- .. as a box -/
theorem comp_turnsB {own : List Nat} {p : Pt} {elt : E} {c : Eo} (hp : ptIn own p = true) {s : List (Option V)} {σ : Env} {Q : List Pk.D → Mu → Prop} {QV : VK} {W0 W1 : Kn} {m0 m1 : Mu} {H0 H1 : Hp} {J : L2.It} {items : List D} {gs : List (Nat × List D)} {D : Addr} {c0 : Nat}
    (st1 : Step W0 m0 H0 W1 m1 H1 c0) (S1 : SRel0 G W1 m1 H1) (L : SlotR Z.triv W1 σ s) (wk : WalkD G W1 J items gs) (hlen : items.length ≤ line) (hD : H1 D = none) (hn : W0.n + (c0 + line * (cEo cst c + cE cst elt)) ≤ Z.lim)
    (q : compL gs p (fun σ2 m2 R => wpTo Φ gv cm c σ2 m2 (fun b m3 => if b = true then wpE Φ gv cm elt σ2 m3 (fun d m4 => R (some d) m4) NoX else R none m3) NoX) (wipeE σ own) items m1 [] fun acc m2 => Q acc m2)
    (kq : ∀ acc m' p H' W', m' p = none → Step W0 m0 H0 W' (mup m' p (some (.lst acc))) H' (c0 + line * (cEo cst c + cE cst elt)) → SRel0 G W' (mup m' p (some (.lst acc))) H' → Q acc m' → QV (.ref p) H') :
    ∃ Wi : Nat → Nat → Hp → Prop, (∃ n, Wi 0 n (upd H1 D (.lst []))) ∧ ∀ i n H, Wi i n H →
      (J.stop i H ∧ QV (.ref D) H) ∨ (J.go i H ∧ ∃ Nx : Hp → Prop, (∀ H', Nx H' → ∃ n', n' < n ∧ Wi (i + 1) n' H') ∧ ∀ x H', J.yld i H x H' → tGp Z.triv p x (L2.wipe s own) H' fun σ2 H2 => L2.wipe σ2 own = L2.wipe s own ∧
        tT Z.triv (fun σ m Q => wpTo Φ gv cm c σ m Q (pF.at σ)) (cEo cst c) σ2 H2 fun b H3 => if b = true then tE Z.triv (fun σ m Q => wpE Φ gv cm elt σ m Q (pF.at σ)) (cE cst elt) σ2 H3 fun y H4 => ∃ acc, H4 D = some (.lst acc) ∧ acc.length < sizeLine ∧ Nx (upd H4 D (.lst (acc ++ [y]))) else Nx H3) := by
  refine comp_turnsG (Q := Q) hp st1 S1 L wk hlen hD hn q ?_
  intro acc accV m' H W' e1 e2 e3 e4 e5 S' st' q'
  have ne : ∀ {b : Addr} {u : HO}, H1 b = some u → b ≠ D := fun {b u} q z => by rw [z, hD] at q; cases q
  have me : ∀ {b : Addr}, b ≠ D → mup m' D (some (.lst acc)) b = m' b := fun {b} hb => by show (if b = D then _ else m' b) = m' b; rw [if_neg hb]
  refine kq acc m' D H W' e3 ?_ (S'.boxUp e1 e2 e4 e5) q'
  refine Step.trans0 S1 st1 ⟨st'.le, st'.kp, fun b o q k1 k2 k3 => ?_, st'.dk, st'.th, st'.n⟩
  obtain ⟨z1, z2⟩ := st'.uk b o q k1 k2 k3
  exact ⟨z1, (me (ne q)).trans z2⟩
theorem snd_comp (h : XOk Z px cm cst Φ gv k C X) (own : List Nat) {elt : E} (p : Pt) {it : It} {c : Eo} {lel : Scope → Lk} {lit : Expr → Lk} {lc : Scope → List Expr → Bool}
    (he2 : ∀ (scope : Scope) (X' : Cx), XOk Z.triv pF cm cst Φ gv k (C.blk scope) X' → OkP Z.triv X' (lel scope) (fun σ m Q => wpE Φ gv cm elt σ m Q (pF.at σ)) (cE cst elt))
    (hc : ∀ (scope : Scope) (X' : Cx), XOk Z.triv pF cm cst Φ gv k (C.blk scope) X' → OkTs Z.triv X' (lc scope) (fun σ m Q => wpTo Φ gv cm c σ m Q (pF.at σ)) (cEo cst c))
    (hi : OkI Z X lit (fun σ m Q => wpIt Φ gv cm it σ m Q (px.at σ)) (cIt cst it)) :
    OkP Z X (mComp C own lel p lit lc) (fun σ m Q => wpE Φ gv cm (.comp own elt p it c) σ m Q (px.at σ)) (cIt cst it + line * (cEo cst c + cE cst elt)) := by
  intro pe hm
  rcases bool_cases cm with hcm | hcm
  case inr =>
    refine ⟨fun pins s σ H QV I q => ?_⟩
    obtain ⟨W, m, σ, Q, hw, S, L, hn, kq⟩ := q
    have := hw.1
    rw [hcm] at this
    cases this
  unfold mComp at hm
  split at hm
  · rename_i pelt pp pit pifs scope pos
    simp only [Bool.and_eq_true] at hm
    obtain ⟨⟨⟨⟨⟨⟨h1, h2⟩, h3⟩, h4⟩, h5⟩, h6⟩, h7⟩ := hm
    have hblk : L2.BlkOk X.N X.env.scope scope (ownN C.N own) := by
      rw [h.N, h.sc]
      exact L2.blkOk_by h1
    have hpe := pe_lc (pos := pos) (h.calm hcm) (by rw [h.N]; exact h.nd) (hi _ _ h4) hblk (fun s H D cl fp => snd_pt (h.blk s H scope D cl fp hcm) p pp (ptB_of hcm) h5) (fun s H D cl fp => hc scope _ (h.blk s H scope D cl fp hcm) pifs h7)
      (fun s H D cl fp => he2 scope _ (h.blk s H scope D cl fp hcm) pelt h6) (foldedSet_of h2 _)
    rw [own_snd] at hpe
    refine PE.of hpe ?_
    intro s H QV q
    obtain ⟨W, m, σ, Q, hw, S, L, hn, kq⟩ := q
    refine ⟨W, m, σ, _, hw.2, S, L, by omega, fun items gs m1 H1 W1 J st1 S1 wk hlen q1 => ?_⟩
    intro D hD
    exact comp_turns h3 st1 S1.toSRel0 ((L.mono st1.le).triv (h.xs0 hcm)) wk hlen hD hn q1 fun d m' v H' W' st S' r q => kq d m' v H' W' st (S.step S' st) r q
  · cases hm
end
end Pk

/-! Own instances: fields read, methods called, instances made. -/
namespace Pk
open PySem L2
section
variable {X : Cx} {CX : CXT} {k : Nat} {f C : Addr} {fd : FuncData} {ps : List Str} {sp : Sp} {E : L2.St → XK} {x m : Str} {p pos apos : Pos} {e o : Expr} {es : List Expr} {ta : TE} {t : TA} {dvs : List V} {ds : List Value}
def tMethD (C : Addr) (m : Str) (sp : Sp) (dvs : List V) (E : L2.St → XK) (ta : TE) (t : TA) : TE := fun σ H Q => ta σ H fun x H1 => ∃ a dx fs, x = .ref a ∧ H1 a = some (.ins C dx fs) ∧ fs.lookup m = none ∧
  t σ H1 fun vs H2 => sp (x :: (vs ++ dvs)) H2 Q (E σ)
/-- o.m(e, ..), what is raised wished for at the caller's slots -/
theorem pe_methD {pl : Sem Bool} (he : PE X o ta) (c : L2.Cls X.K C) (hm : L2.Meth X.K C m f) (F : FnOk X.prog X.w X.K X.mg X.base CX k f fd ps sp) (hr : Room k X.A) (hb : Binds X.K fd ps ds) (hd : Vals dvs ds) (hx : ∀ σ, PassesAt CX X σ (E σ)) (ha : PA X (e :: es) t)
    (hst : starEach (e :: es) X.env = (false, eval e X.env) :: starEach es X.env) (hpl : (backTo pos (starEach es X.env)).any (·.1) = false)
    (ht : eval (.Call (.Attribute o m apos) (e :: es) [] pos) X.env = (do
      let ov ← eval o X.env
      standAt apos.atName
      let (f, first) ← holding [ov] (getMethod ov m pl)
      callWith pos f first (backTo pos (starEach (e :: es) X.env)) (backToKw pos (keywordEach [] X.env)))) :
    PE X (.Call (.Attribute o m apos) (e :: es) [] pos) (tMethD C m sp dvs E ta t) := by
  refine ⟨fun pins s σ H Q I h => ?_⟩
  refine PySem.W.methodCall_KW (pl := pl) (thn (he.run pins s σ H _ I h) fun u s1 ⟨x, H1, I1, rx, a, dx, fs, ex, ea, l, q⟩ => ?_) ht
  subst ex
  obtain rfl : u = Value.ref a := rx
  refine getmeth_ok I1 ea c hm l ?_
  refine PySem.W.callWith_K (first := [.ref a]) (h₀ := X.base) I.ok.mod.kin hm.kp (thn (ha.run pos pins s1 σ H1 _ I1 q) fun us s2 ⟨vs, H2, I2, r, q2⟩ => ⟨I2.kIn, ?_⟩) hst hpl
  exact run_fnSD (us := .ref a :: us) (vs := .ref a :: vs) F hr hb hd (hx σ) I2 (.cons rfl r) q2
theorem pe_methD0 {pl : Sem Bool} (he : PE X o ta) (c : L2.Cls X.K C) (hm : L2.Meth X.K C m f) (F : FnOk X.prog X.w X.K X.mg X.base CX k f fd ps sp) (hr : Room k X.A) (hb : Binds X.K fd ps ds) (hd : Vals dvs ds) (hx : ∀ σ, PassesAt CX X σ (E σ))
    (ht : eval (.Call (.Attribute o m apos) [] [] pos) X.env = (do
      let ov ← eval o X.env
      standAt apos.atName
      let (f, first) ← holding [ov] (getMethod ov m pl)
      callWith pos f first (backTo pos (starEach [] X.env)) (backToKw pos (keywordEach [] X.env)))) :
    PE X (.Call (.Attribute o m apos) [] [] pos) (tMethD C m sp dvs E ta tNil) := by
  refine ⟨fun pins s σ H Q I h => ?_⟩
  refine PySem.W.methodCall_KW (pl := pl) (thn (he.run pins s σ H _ I h) fun u s1 ⟨x, H1, I1, rx, a, dx, fs, ex, ea, l, q⟩ => ?_) ht
  subst ex
  obtain rfl : u = Value.ref a := rx
  refine getmeth_ok I1 ea c hm l ?_
  exact PySem.W.callWith_K0 (first := [.ref a]) I1.kIn hm.kp (run_fnSD (us := [.ref a]) (vs := [.ref a]) F hr hb hd (hx σ) I1 (.cons rfl .nil) q)
theorem run_makeD {pins : List (Addr × Obj)} {σ : L2.St} {H : Hp} {s : Shared} {Q : VK} {us : List Value} {vs : List V} (M : L2.Mk X.K C f) (F : FnOk X.prog X.w X.K X.mg X.base CX k f fd ps sp) (hr : Room (k + 1) X.A) (hb : Binds X.K fd ps ds) (hd : Vals dvs ds)
    (hx : PassesAt CX X σ (E σ)) (I : L2.Inv X pins σ H s) (r : Vals vs us)
    (h : ∀ x dx, H x = none → H dx = none → dx ≠ x → sp (.ref x :: (vs ++ dvs)) (upd (upd H dx (.own x)) x (.ins C dx [])) (fun v H2 => v = .non ∧ Q (.ref x) H2) (E σ)) :
    wpAny (model X.prog X.w) X.A (call (.ref C) us) (EP X pins σ Q) X.xe s := by
  have hq := h (s.heap.objs.size + 1) s.heap.objs.size (I.hok.fresh (Nat.le_succ _)) (I.hok.fresh (Nat.le_refl _)) (Nat.ne_of_lt (Nat.lt_succ_self _))
  have I2 := Inv.made (C := C) I
  have r2 : Vals (V.ref (s.heap.objs.size + 1) :: (vs ++ dvs)) (Value.ref (s.heap.objs.size + 1) :: (us ++ ds)) := .cons rfl (r.append hd)
  have hl : (Value.ref (s.heap.objs.size + 1) :: us ++ ds).length = ps.length := by
    have e := r2.length
    rw [F.len _ _ _ _ hq] at e
    exact e.symm
  refine wpAny_call (make_map (f := f) I.kIn M.makes M.init (beq_iff_eq.mp M.fn) (codeAny_mono (F.run _ X.stack _ _ ⟨Value.ref (s.heap.objs.size + 1) :: us, []⟩ (Value.ref (s.heap.objs.size + 1) :: (us ++ ds)) _ _ (E σ) (hr.make C us [])
    (I2.env0.make C us []) (hb _ (Value.ref (s.heap.objs.size + 1) :: us) I2.kIn hl) r2 hq) fun r s' hq' => ?_))
  cases r with
  | error e => exact hx pins _ _ e s' I2 hq'
  | ok fl =>
    cases fl with
    | ret u =>
      obtain ⟨v, H', I3, rv, ev, q3⟩ := I2.after hq'
      subst ev
      exact ⟨rv, ⟨V.ref (s.heap.objs.size + 1), H', I3, rfl, q3⟩⟩
    | next => exact False.elim hq'
    | brk => exact False.elim hq'
    | cont => exact False.elim hq'
def tMakeD (C : Addr) (sp : Sp) (dvs : List V) (E : L2.St → XK) (t : TA) : TE := fun σ H Q => t σ H fun vs H1 => ∀ x dx, H1 x = none → H1 dx = none → dx ≠ x →
  sp (.ref x :: (vs ++ dvs)) (upd (upd H1 dx (.own x)) x (.ins C dx [])) (fun v H2 => v = .non ∧ Q (.ref x) H2) (E σ)
theorem pe_makeD (M : L2.Mk X.K C f) (F : FnOk X.prog X.w X.K X.mg X.base CX k f fd ps sp) (hr : Room (k + 1) X.A) (hg : Gl X x) (hm : X.mg x = some (.ref C)) (hb : Binds X.K fd ps ds) (hd : Vals dvs ds) (hx : ∀ σ, PassesAt CX X σ (E σ))
    (ha : PA X (e :: es) t) (hdb : (x == ("__debug__" : Str)) = false) (he : starEach (e :: es) X.env = (false, eval e X.env) :: starEach es X.env) (hpl : (backTo pos (starEach es X.env)).any (·.1) = false) :
    PE X (.Call (.Name x p) (e :: es) [] pos) (tMakeD C sp dvs E t) := by
  refine ⟨fun pins s σ H Q I h => ?_⟩
  refine wpAny_Call_Name_kw (ld_glob I hg hm ?_ hdb)
  refine PySem.W.callWith_K (h₀ := X.base) I.ok.mod.kin M.kp (thn (ha.run pos pins s σ H _ I h) fun us s1 ⟨vs, H1, I1, r, q⟩ => ⟨I1.kIn, ?_⟩) he hpl
  exact run_makeD M F hr hb hd (hx σ) I1 r q
end
section
variable {G : Gs} {Z : Zs G} {px : PxE} {cm : Bool} {cst : Nat → Nat} {Φ : Fs} {gv : Nat → D} {k : Nat} {C : Ct} {X : Cx}
theorem rep_obj {W : Kn} {m : Mu} {H : Hp} {v : V} {c : Nat} {fs : List (Nat × D)} (S : SRel0 G W m H) (r : Rep G W v (.obj c fs)) : ∃ a dx fv, v = .ref a ∧ H a = some (.ins (G.cls c) dx fv) ∧ c ∈ G.oc ∧ (∀ p ∈ fs, p.1 ∈ G.ofs c) ∧ RepO G W fv fs := by
  cases r with
  | obj h1 h2 h3 h4 => exact ⟨_, _, _, rfl, S.fz _ _ h1, h2, h3, h4⟩
theorem lookup_mem {f : Nat} {d : D} : ∀ {fs : List (Nat × D)}, fs.lookup f = some d → (f, d) ∈ fs
  | (g, x) :: r, h => by
    rw [List.lookup_cons] at h
    by_cases e : f = g
    · subst e
      rw [beq_self_eq_true] at h
      rw [Option.some.inj h]
      exact List.mem_cons_self ..
    · rw [beq_eq_false_iff_ne.mpr e] at h
      exact List.mem_cons_of_mem _ (lookup_mem h)
theorem snd_fld (h : XOk Z px cm cst Φ gv k C X) (f : Nat) {a : E} {la : Lk} (ha : OkP Z X la (fun σ m Q => wpE Φ gv cm a σ m Q (px.at σ)) (cE cst a)) : OkP Z X (mFld C la f) (fun σ m Q => wpE Φ gv cm (.fld a f) σ m Q (px.at σ)) (cE cst a) := by
  intro pe hl
  unfold mFld at hl
  split at hl
  · rename_i pa y pos
    simp only [Bool.and_eq_true, decide_eq_true_eq] at hl
    obtain ⟨⟨h1, h2⟩, h3⟩ := hl
    have ef := h.ow.fl f y h3
    refine PE.of (pe_fld (ha _ h2) (attr_of h1 _ _)) ?_
    intro s H QV q
    obtain ⟨W, m, σ, Q, hw, S, L, hn, kq⟩ := q
    refine ⟨W, m, σ, _, hw, S, L, hn, fun d m1 v H1 W1 st1 S1 r q1 => ?_⟩
    cases d with
    | obj c fs =>
      obtain ⟨d, q2, q3⟩ := q1
      obtain ⟨p, dx, fv, rfl, e1, e2, e3, e4⟩ := rep_obj S1.toSRel0 r
      obtain ⟨k1, k2⟩ := h.ow.cls c e2
      have hf : f ∈ G.ofs c := e3 _ (lookup_mem q2)
      obtain ⟨u, u1, u2⟩ := e4.look (f := f) (fun p hp e => h.ow.inj c e2 _ (e3 p hp) f hf e) q2
      rw [← ef]
      exact ⟨p, _, dx, fv, u, rfl, e1, by rw [h.K]; exact k1, by rw [h.K]; exact k2 f hf, u1, kq d m1 u H1 W1 st1 S1 u2 q3⟩
    | _ => exact q1.elim
  · cases hl
theorem meth_form {ps : List Expr} {pos : Pos} {env : PySem.Env} (h1 : ps.all notStar = true) (h2 : ps.length < 30) : methodCallForm (ps.length + ([] : List Keyword).length) (backTo pos (starEach ps env)) (backToKw pos (keywordEach [] env)) = true := by
  have h3 := star_plain (pos := pos) (env := env) h1
  unfold methodCallForm
  have h4 : (backTo pos (starEach ps env)).all (fun x => !x.1) = true := by
    rw [List.all_eq_true]
    intro x hx
    cases e : x.1 with
    | false => rfl
    | true =>
      have : (backTo pos (starEach ps env)).any (·.1) = true := List.any_eq_true.mpr ⟨x, hx, e⟩
      rw [h3] at this
      cases this
  rw [h4]
  show (true && true && decide (ps.length + 0 + 0 < 30)) = true
  rw [decide_eq_true (by omega)]
  rfl
theorem snd_meth (h : XOk Z px cm cst Φ gv k C X) (f c : Nat) (cs : List Cn) {a : E} {la : Lk} {es : Es} {l : List Expr → Bool} (ha : OkP Z X la (fun σ m Q => wpE Φ gv cm a σ m Q (px.at σ)) (cE cst a)) (he : OkA Z X l (fun σ m Q => wpEs Φ gv cm es σ m Q (px.at σ)) (cEs cst es)) (hnil : l [] = true → es = .nil) :
    OkP Z X (mMeth C f c la l cs) (fun σ m Q => wpE Φ gv cm (.meth f c a es cs) σ m Q (px.at σ)) (cE cst a + (cEs cst es + cst f)) := by
  intro pe hl
  unfold mMeth at hl
  split at hl
  · rename_i pa y apos ps pos
    simp only [Bool.and_eq_true, decide_eq_true_eq] at hl
    obtain ⟨⟨⟨⟨⟨⟨⟨h1, h2⟩, h3⟩, h4⟩, h5⟩, h6⟩, h7⟩, h8⟩ := hl
    obtain ⟨o1, o2, fa, fd, pn, q1, q2, q3, q4⟩ := h.ow.meth f c y h3
    have cl := (h.ow.cls c o1).1
    have hb : ∃ us, Vals (cs.map Cn.v) us ∧ Binds G.K fd pn us := by
      rw [Bool.or_eq_true, decide_eq_true_eq] at h8
      cases cs with
      | nil => exact ⟨[], .nil, q3⟩
      | cons c0 cr =>
        rcases h8 with h8 | ⟨c2, c3⟩
        · cases h8
        · have c1 : 0 < (c0 :: cr).length := Nat.succ_pos _
          obtain ⟨us, v1, v2⟩ := q4 ((C.dfl f).length - (c0 :: cr).length) (by omega)
          rw [c3] at v1
          exact ⟨us, v1, v2⟩
    obtain ⟨us, v1, v2⟩ := hb
    rw [← h.K] at q1 q2 v2 cl
    rcases bool_cases cm with hc | hc
    · have ht := callM_eq (o := pa) (name := y) (apos := apos) (pos := pos) (args := ps) (env := X.env) (attr_of h1 _ _) (meth_form h6 h5) h4
      cases ps with
      | nil =>
        have en := hnil h7
        subst en
        refine PE.of (pe_methD0 (ha _ h2) cl q1 q2 (h.room hc) v2 v1 (passAt h.tk) ht) fun s H QV q => ?_
        obtain ⟨W, m, σ, Q, hw, S, L, hn, kq⟩ := q
        have ce : cEs cst .nil = 0 := rfl
        refine ⟨W, m, σ, _, hw.2, S, L, by omega, fun d m1 v H1 W1 st1 S1 r qq => ?_⟩
        obtain ⟨qc, qq⟩ := qq
        cases d with
        | obj c' fs =>
          have ec : c' = c := qc
          subst ec
          obtain ⟨p, dx, fv, rfl, e1, e2, e3, e4⟩ := rep_obj S1.toSRel0 r
          have n1 := st1.n
          refine ⟨p, dx, fv, rfl, e1, e4.none fun z hz => o2 _ (e3 z hz), ?_⟩
          exact spD_of h hc S1 (L.mono st1.le) (by omega) (.cons r (Cn.reps cs)) qq fun d m2 v H2 W2 st2 S2 r2 q2 => kq d m2 v H2 W2 ((Step.trans S1 st1 st2).weak (by omega)) S2 r2 q2
        | _ => exact qc.elim
      | cons p0 pr =>
        have h6' : (notStar p0 && pr.all notStar) = true := h6
        obtain ⟨s1, s2⟩ := Bool.and_eq_true_iff.mp h6'
        refine PE.of (pe_methD (ha _ h2) cl q1 q2 (h.room hc) v2 v1 (passAt h.tk) (he _ h7) (star1 s1) (star_plain s2) ht) fun s H QV q => ?_
        obtain ⟨W, m, σ, Q, hw, S, L, hn, kq⟩ := q
        refine ⟨W, m, σ, _, hw.2, S, L, by omega, fun d m1 v H1 W1 st1 S1 r qq => ?_⟩
        obtain ⟨qc, qq⟩ := qq
        cases d with
        | obj c' fs =>
          have ec : c' = c := qc
          subst ec
          obtain ⟨p, dx, fv, rfl, e1, e2, e3, e4⟩ := rep_obj S1.toSRel0 r
          have n1 := st1.n
          refine ⟨p, dx, fv, rfl, e1, e4.none fun z hz => o2 _ (e3 z hz), ?_⟩
          refine ⟨W1, m1, σ, _, qq, S1, L.mono st1.le, by omega, fun ds m2 vs H2 W2 _ st2 S2 rs q1 => ?_⟩
          have n2 := st2.n
          exact spD_of h hc S2 (L.mono (st1.le.trans st2.le)) (by omega) (.cons (Rep.mono st2.le _ r) (rs.append (Cn.reps cs))) q1 fun d m3 v H3 W3 st3 S3 r3 q3 => kq d m3 v H3 W3 ((Step.trans S2 (Step.trans S1 st1 st2) st3).weak (by omega)) S3 r3 q3
        | _ => exact qc.elim
    · refine ⟨fun pins s st H QV I q => ?_⟩
      obtain ⟨W, m, σ, Q, hw, _⟩ := q
      have := hw.1
      rw [hc] at this
      cases this
  · cases hl
theorem snd_make (h : XOk Z px cm cst Φ gv k C X) (f : Nat) {es : Es} {l : List Expr → Bool} (he : OkA Z X l (fun σ m Q => wpEs Φ gv cm es σ m Q (px.at σ)) (cEs cst es)) :
    OkP Z X (mMake C f l) (fun σ m Q => wpE Φ gv cm (.make f es) σ m Q (px.at σ)) (cEs cst es + cst f) := by
  intro pe hl
  unfold mMake at hl
  split at hl
  · rename_i x p1 p pes pos
    simp only [Bool.and_eq_true] at hl
    obtain ⟨⟨⟨⟨h1, h2⟩, h3⟩, h4⟩, h5⟩ := hl
    obtain ⟨g1, g2⟩ := gl_of h h2
    cases em : C.omk f with
    | none => rw [em] at h1; cases h1
    | some z =>
      obtain ⟨c, y⟩ := z
      rw [em] at h1
      have ex : x = y := of_decide_eq_true h1
      subst ex
      obtain ⟨o1, o2, fa, fd, pn, k', ek, q1, q2, q3⟩ := h.ow.make f c x em
      rw [← h.K] at q1 q2 q3
      rcases bool_cases cm with hc | hc
      · refine PE.of (pe_makeD (dvs := []) (ds := []) q1 q2 (ek ▸ h.room hc) g1 o2 q3 .nil (passAt h.tk) (he _ h5) g2 (star1 h3) (star_plain h4)) fun s H QV q => ?_
        obtain ⟨W, m, σ, Q, hw, S, L, hn, kq⟩ := q
        refine ⟨W, m, σ, _, hw.2, S, L, by omega, fun ds m1 vs H1 W1 _ st1 S1 rs q1 => ?_⟩
        have n1 := st1.n
        have li := h.lim
        intro x dx e1 e2 ne
        rw [hc] at q1
        refine ⟨x, dx, vs, W1, m1, ds, Q, px.at σ, H1, by rw [List.append_nil], e1, e2, ne, rfl, q1, S1.toSRel0, rs, by omega, fun d m' H' W' st S' r q2 => ⟨rfl, ?_⟩, fun xx m' H' W' cls d st S' rx q2 => ?_⟩
        · exact kq d m' _ H' W' (Step.trans S1 st1 st) (S1.step S' st) r q2
        · have n2 := st.n
          exact ⟨xx, W', m', σ, S1.step S' st, L.mono (st1.le.trans st.le), by omega, rx, q2⟩
      · refine ⟨fun pins s st H QV I q => ?_⟩
        obtain ⟨W, m, σ, Q, hw, _⟩ := q
        have := hw.1
        rw [hc] at this
        cases this
  · cases hl
end
end Pk

/-! Comprehensions with two fors. -/
namespace Pk
open PySem L2
/-- turns over a walk, told of any block -/
theorem lp_it {J : L2.It} {n : Nat} {Gd : Hp → Prop} {Y : Nat → Hp → V → Hp → Prop} (w : Walk J n Gd Y) {B : V → Hp → (Hp → Prop) → Prop} {H1 : Hp} {Ed : Hp → Prop} (Pv : Nat → Hp → Prop) (h0 : Pv 0 H1) (hG : ∀ i H, i ≤ n → Pv i H → Gd H)
    (hs : ∀ i x H H', i < n → Pv i H → Y i H x H' → B x H' (Pv (i + 1))) (hd : ∀ H, Pv n H → Ed H) :
    ∃ Wi : Nat → Nat → Hp → Prop, (∃ m, Wi 0 m H1) ∧ ∀ i m H, Wi i m H → (J.stop i H ∧ Ed H) ∨ (J.go i H ∧ ∃ Nx : Hp → Prop, (∀ H', Nx H' → ∃ m', m' < m ∧ Wi (i + 1) m' H') ∧ ∀ x H', J.yld i H x H' → B x H' Nx) := by
  refine ⟨fun i m H => i + m = n ∧ Pv i H, ⟨n, by omega, h0⟩, fun i m H ⟨e, p⟩ => ?_⟩
  have q := hG i H (by omega) p
  rcases Nat.lt_or_ge i n with hi | hi
  · exact .inr ⟨w.goes i H hi q, Pv (i + 1), fun H' p' => ⟨n - (i + 1), by omega, by omega, p'⟩, fun x H' y => hs i x H H' hi p (w.yields i H x H' hi q y)⟩
  · obtain rfl : i = n := by omega
    exact .inl ⟨w.stops H q, hd H p⟩
section
variable {G : Gs} {Z : Zs G} {px : PxE} {cm : Bool} {cst : Nat → Nat} {Φ : Fs} {gv : Nat → D} {k : Nat} {C : Ct} {X : Cx}
/-- a list that grows, told by nobody yet -/
structure Grow (G : Gs) (A : Addr) (W1 : Kn) (m1 : Mu) (H1 : Hp) (c : Nat) (acc : List D) (W : Kn) (m : Mu) (H : Hp) : Prop where
  ex : ∃ av, H A = some (.lst av) ∧ RepL G W av acc
  f : W.F A = none
  mm : m A = none
  dr : ¬ drA W A
  S : SRel0 G W m H
  st : Step W1 m1 H1 W m H c
theorem Grow.step {A : Addr} {W1 W W' : Kn} {m1 m m' : Mu} {H1 H H' : Hp} {c c' : Nat} {acc : List D} (g : Grow G A W1 m1 H1 c acc W m H) (S' : SRel0 G W' m' H') (st : Step W m H W' m' H' c') : Grow G A W1 m1 H1 (c + c') acc W' m' H' := by
  obtain ⟨av, e1, e2⟩ := g.ex
  obtain ⟨d1, d2, d3⟩ := Step.mk1 S' st e1 g.mm g.dr
  exact ⟨⟨av, d1, RepL.mono st.le _ e2⟩, (st.uk A _ e1 g.f g.mm g.dr).1, d2, d3, S', Step.trans0 g.S g.st st⟩
theorem Grow.weak {A : Addr} {W1 W : Kn} {m1 m : Mu} {H1 H : Hp} {c c' : Nat} {acc : List D} (g : Grow G A W1 m1 H1 c acc W m H) (h : c ≤ c') : Grow G A W1 m1 H1 c' acc W m H := ⟨g.ex, g.f, g.mm, g.dr, g.S, g.st.weak h⟩
theorem Grow.push {A : Addr} {W1 W : Kn} {m1 m : Mu} {H1 H : Hp} {c : Nat} {acc : List D} {d : D} {v : V} (g : Grow G A W1 m1 H1 c acc W m H) (hA : H1 A = none) (r : Rep G W v d) (hl : acc.length < line) :
    ∃ av, H A = some (.lst av) ∧ av.length < sizeLine ∧ Grow G A W1 m1 H1 c (acc ++ [d]) W m (upd H A (.lst (av ++ [v]))) := by
  obtain ⟨av, e1, e2⟩ := g.ex
  have hlen : av.length < sizeLine := by
    have := e2.length
    have : line = sizeLine := line_eq
    omega
  have ne : ∀ {b : Addr} {u : HO}, H1 b = some u → b ≠ A := fun {b u} q z => by rw [z, hA] at q; cases q
  refine ⟨av, e1, hlen, ⟨_, upd_same, e2.append (.cons r .nil)⟩, g.f, g.mm, g.dr, ?_, ?_⟩
  · exact g.S.unk e1 g.f g.mm g.dr (by show (av ++ [v]).length ≤ sizeLine; simp; omega)
  · exact ⟨g.st.le, fun b o q k1 k2 => by rw [upd_ne (ne q)]; exact g.st.kp b o q k1 k2, g.st.uk, g.st.dk, fun b o q => by rw [upd_ne (ne q)]; exact g.st.th b o q, g.st.n⟩
theorem Grow.new {A : Addr} {W1 : Kn} {m1 : Mu} {H1 : Hp} (S1 : SRel0 G W1 m1 H1) (hA : H1 A = none) : Grow G A W1 m1 H1 0 [] W1 m1 (upd H1 A (.lst [])) := by
  obtain ⟨f1, f2, f3⟩ := S1.none hA
  have ne : ∀ {b : Addr} {u : HO}, H1 b = some u → b ≠ A := fun {b u} q z => by rw [z, hA] at q; cases q
  refine ⟨⟨[], upd_same, .nil⟩, f1, f2, f3, ?_, Kn.le.refl _, fun b u q _ _ => by rw [upd_ne (ne q)]; exact q, fun b u q k1 k2 _ => ⟨k1, k2⟩, fun _ _ _ q => q, fun b u q => ⟨u, by rw [upd_ne (ne q)]; exact q⟩, Nat.le_add_right _ _⟩
  refine ⟨fun b u q => ?_, fun b u q => ?_, S1.dj, fun t ht => ?_, S1.drF, S1.dri, S1.drn, fun b xs q => ?_⟩
  · rw [upd_ne (ne (S1.fz b u q))]
    exact S1.fz b u q
  · obtain ⟨x, hx⟩ := (S1.bx b u q).there
    exact (S1.bx b u q).mono (Kn.le.refl W1) (upd_ne (ne hx))
  · refine (S1.dr t ht).same (fun b i => ?_) (Nat.le_refl _)
    obtain ⟨xs, e⟩ := (S1.dr t ht).there i
    exact upd_ne (ne e)
  · by_cases hb : b = A
    · rw [hb, upd_same] at q
      rcases q with q | q | ⟨z, q⟩
      · have q' := Option.some.inj q
        cases q'
        exact Nat.zero_le _
      · cases Option.some.inj q
      · cases Option.some.inj q
    · rw [upd_ne hb] at q
      exact S1.bd b xs q
/-- what a turn begins with -/
theorem walk_turn {W0 W' : Kn} {m' : Mu} {H : Hp} {items : List D} {gs : List (Nat × List D)} {p : Pt} {body : Env → Mu → List D → (List D → Mu → Prop) → Prop} {σ : Env} {acc : List D} {Q : List D → Mu → Prop} {i : Nat} {Y : Nat → Hp → V → Hp → Prop} {x : V} {H' : Hp}
    (wY : ∀ i H' v H'' W' m', i < items.length → Kn.le W0 W' → SRel0 G W' m' H' → Gd gs m' → Y i H' v H'' → ∃ d W'', items[i]? = some d ∧ Rep G W'' v d ∧ SRel0 G W'' m' H'' ∧ Step W' m' H' W'' m' H'' 0)
    (hi : i < items.length) (le : Kn.le W0 W') (S' : SRel0 G W' m' H) (q : compB gs p body σ (items.drop i) m' acc Q) (y : Y i H x H') :
    ∃ d W'' σ', bindP p d σ = some σ' ∧ Rep G W'' x d ∧ SRel0 G W'' m' H' ∧ Step W' m' H W'' m' H' 0 ∧ body σ' m' acc fun acc' m2 => compB gs p body σ (items.drop (i + 1)) m2 acc' Q := by
  have hd : items.drop i = items[i] :: items.drop (i + 1) := List.drop_eq_getElem_cons hi
  rw [hd] at q
  obtain ⟨gd, σ', hb, q'⟩ := q
  obtain ⟨d, W'', g1, g2, S'', st''⟩ := wY i H x H' W' m' hi le S' gd y
  have hdd : d = items[i] := by
    rw [List.getElem?_eq_getElem hi] at g1
    exact (Option.some.inj g1).symm
  rw [hdd] at g2
  exact ⟨_, W'', σ', hb, g2, S'', st'', q'⟩
theorem compB_gd {gs : List (Nat × List D)} {p : Pt} {body : Env → Mu → List D → (List D → Mu → Prop) → Prop} {σ : Env} {m : Mu} {acc : List D} {Q : List D → Mu → Prop} : ∀ {ds : List D}, compB gs p body σ ds m acc Q → Gd gs m
  | [], h => h.1
  | _ :: _, h => h.1
abbrev inB2 (Φ : Fs) (gv : Nat → D) (cm : Bool) (elt : E) (c1 : Eo) : Env → Mu → List D → (List D → Mu → Prop) → Prop := fun σ3 m5 acc1 R1 => wpTo Φ gv cm c1 σ3 m5 (fun b1 m6 =>
  if b1 = true then wpE Φ gv cm elt σ3 m6 (fun d m7 => acc1.length < line ∧ R1 (acc1 ++ [d]) m7) NoX else R1 acc1 m6) NoX
abbrev ouB2 (Φ : Fs) (gv : Nat → D) (cm : Bool) (own1 : List Nat) (elt : E) (c : Eo) (p1 : Pt) (it1 : It) (c1 : Eo) : Env → Mu → List D → (List D → Mu → Prop) → Prop := fun σ2 m2 acc R => wpTo Φ gv cm c σ2 m2 (fun b m3 =>
  if b = true then wpIt Φ gv cm it1 σ2 m3 (fun items1 gs1 m4 => compB gs1 p1 (inB2 Φ gv cm elt c1) (wipeE σ2 own1) items1 m4 acc R) NoX else R acc m3) NoX
theorem comp2_turnsG {own own1 : List Nat} {p p1 : Pt} {elt : E} {it1 : It} {c c1 : Eo} (hp : ptIn own p = true) (hp1 : ptIn own1 p1 = true) {s : List (Option V)} {σ : Env} {Q : List Pk.D → Mu → Prop} {QV : VK} {W0 W1 : Kn} {m0 m1 : Mu} {H0 H1 : Hp} {J : L2.It} {items : List D} {gs : List (Nat × List D)} {A : Addr} {c0 : Nat}
    (st1 : Step W0 m0 H0 W1 m1 H1 c0) (S1 : SRel0 G W1 m1 H1) (L : SlotR Z.triv W1 σ s) (wk : WalkD G W1 J items gs) (hlen : items.length ≤ line) (hD : H1 A = none) (hn : W0.n + (c0 + line * (cEo cst c + (cIt cst it1 + line * (cEo cst c1 + cE cst elt)))) ≤ Z.lim)
    (q : compB gs p (ouB2 Φ gv cm own1 elt c p1 it1 c1) (wipeE σ own) items m1 [] fun acc m2 => Q acc m2)
    (kq : ∀ acc accV m' H' W', H' A = some (.lst accV) → W'.F A = none → m' A = none → ¬ drA W' A → RepL G W' accV acc → SRel0 G W' m' H' → Step W1 m1 H1 W' m' H' (line * (cEo cst c + (cIt cst it1 + line * (cEo cst c1 + cE cst elt)))) → Q acc m' → QV (.ref A) H') :
    ∃ Wi : Nat → Nat → Hp → Prop, (∃ n, Wi 0 n (upd H1 A (.lst []))) ∧ ∀ i n H, Wi i n H →
      (J.stop i H ∧ QV (.ref A) H) ∨ (J.go i H ∧ ∃ Nx : Hp → Prop, (∀ H', Nx H' → ∃ n', n' < n ∧ Wi (i + 1) n' H') ∧ ∀ x H', J.yld i H x H' → tGp Z.triv p x (L2.wipe s own) H' fun σ2 H2 => L2.wipe σ2 own = L2.wipe s own ∧
        tT Z.triv (fun σ m Q => wpTo Φ gv cm c σ m Q (pF.at σ)) (cEo cst c) σ2 H2 fun b H3 => if b = true then
          tI Z.triv (fun σ m Q => wpIt Φ gv cm it1 σ m Q (pF.at σ)) (cIt cst it1) σ2 H3 fun J1 H4 => ∃ Wj : Nat → Nat → Hp → Prop, (∃ n, Wj 0 n H4) ∧ ∀ j n H, Wj j n H →
            (J1.stop j H ∧ Nx H) ∨ (J1.go j H ∧ ∃ Nx1 : Hp → Prop, (∀ H', Nx1 H' → ∃ n', n' < n ∧ Wj (j + 1) n' H') ∧ ∀ x H', J1.yld j H x H' → tGp Z.triv p1 x (L2.wipe σ2 own1) H' fun σ3 H5 => L2.wipe σ3 own1 = L2.wipe σ2 own1 ∧
              tT Z.triv (fun σ m Q => wpTo Φ gv cm c1 σ m Q (pF.at σ)) (cEo cst c1) σ3 H5 fun b H6 => if b = true then tE Z.triv (fun σ m Q => wpE Φ gv cm elt σ m Q (pF.at σ)) (cE cst elt) σ3 H6 fun y H7 => ∃ acc, H7 A = some (.lst acc) ∧ acc.length < sizeLine ∧ Nx1 (upd H7 A (.lst (acc ++ [y]))) else Nx1 H6)
          else Nx H3) := by
  obtain ⟨P, Y, wk, wP, wY⟩ := wk
  generalize hcI : cEo cst c1 + cE cst elt = cI at hn kq ⊢
  generalize hcO : cEo cst c + (cIt cst it1 + line * cI) = cO at hn kq ⊢
  have nn1 := st1.n
  refine lp_it wk (B := fun x H' Nx => tGp Z.triv p x (L2.wipe s own) H' fun σ2 H2 => L2.wipe σ2 own = L2.wipe s own ∧ tT Z.triv (fun σ m Q => wpTo Φ gv cm c σ m Q (pF.at σ)) (cEo cst c) σ2 H2 fun b H3 => if b = true then
          tI Z.triv (fun σ m Q => wpIt Φ gv cm it1 σ m Q (pF.at σ)) (cIt cst it1) σ2 H3 fun J1 H4 => ∃ Wj : Nat → Nat → Hp → Prop, (∃ n, Wj 0 n H4) ∧ ∀ j n H, Wj j n H →
            (J1.stop j H ∧ Nx H) ∨ (J1.go j H ∧ ∃ Nx1 : Hp → Prop, (∀ H', Nx1 H' → ∃ n', n' < n ∧ Wj (j + 1) n' H') ∧ ∀ x H', J1.yld j H x H' → tGp Z.triv p1 x (L2.wipe σ2 own1) H' fun σ3 H5 => L2.wipe σ3 own1 = L2.wipe σ2 own1 ∧
              tT Z.triv (fun σ m Q => wpTo Φ gv cm c1 σ m Q (pF.at σ)) (cEo cst c1) σ3 H5 fun b H6 => if b = true then tE Z.triv (fun σ m Q => wpE Φ gv cm elt σ m Q (pF.at σ)) (cE cst elt) σ3 H6 fun y H7 => ∃ acc, H7 A = some (.lst acc) ∧ acc.length < sizeLine ∧ Nx1 (upd H7 A (.lst (acc ++ [y]))) else Nx1 H6)
          else Nx H3)
    (fun i H => ∃ (W' : Kn) (m' : Mu) (acc : List Pk.D), Grow G A W1 m1 H1 (i * cO) acc W' m' H ∧ compB gs p (ouB2 Φ gv cm own1 elt c p1 it1 c1) (wipeE σ own) (items.drop i) m' acc fun acc m2 => Q acc m2) ?_ ?_ ?_ ?_
  · exact ⟨W1, m1, [], (Grow.new S1 hD).weak (Nat.zero_le _), by simpa using q⟩
  · rintro i H hi ⟨W', m', acc, g, q'⟩
    exact wP W' m' H g.st.le g.S (compB_gd q')
  · rintro i x H H' hi ⟨W', m', acc, g, q'⟩ y
    obtain ⟨d, W'', σ', hb, g2, S'', st'', q'⟩ := walk_turn wY hi g.st.le g.S q' y
    have g' := g.step S'' st''
    have L' : SlotR Z.triv W'' (wipeE σ own) (L2.wipe s own) := ((L.wipe own).mono g.st.le).mono st''.le
    have n1 := g'.st.n
    have hi2 : i < line := Nat.lt_of_lt_of_le hi hlen
    have hmul : (i + 1) * cO ≤ line * cO := Nat.mul_le_mul_right _ hi2
    rw [Nat.succ_mul] at hmul
    refine ⟨W'', m', _, _, σ', hb, S''.triv, L', g2, fun s2 L2' hw => ?_⟩
    refine ⟨by rw [hw own hp, wipe_wipe], ?_⟩
    refine ⟨W'', m', σ', _, q', S''.triv, L2', (by show _ ≤ Z.lim; omega), fun b m3 H3 W3 st3 Z3 q3 => ?_⟩
    have g3 := g'.step Z3.toSRel0 st3
    cases b with
    | false =>
      rw [if_neg Bool.false_ne_true] at q3
      refine iteF ?_
      exact ⟨W3, m3, acc, g3.weak (by rw [Nat.succ_mul]; omega), q3⟩
    | true =>
      rw [if_pos rfl] at q3
      refine iteT ?_
      have n3 := g3.st.n
      refine ⟨W3, m3, σ', _, q3, Z3, L2'.mono st3.le, (by show _ ≤ Z.lim; omega), fun items1 gs1 m4 H4 W4 J1 st4 Z4 wk1 hlen1 q4 => ?_⟩
      have g4 := g3.step Z4.toSRel0 st4
      have n4 := g4.st.n
      have L4 : SlotR Z.triv W4 σ' s2 := (L2'.mono st3.le).mono st4.le
      obtain ⟨P1, Y1, wk1, wP1, wY1⟩ := wk1
      refine lp_it wk1 (B := fun x H' Nx1 => tGp Z.triv p1 x (L2.wipe s2 own1) H' fun σ3 H5 => L2.wipe σ3 own1 = L2.wipe s2 own1 ∧
              tT Z.triv (fun σ m Q => wpTo Φ gv cm c1 σ m Q (pF.at σ)) (cEo cst c1) σ3 H5 fun b H6 => if b = true then tE Z.triv (fun σ m Q => wpE Φ gv cm elt σ m Q (pF.at σ)) (cE cst elt) σ3 H6 fun y H7 => ∃ acc, H7 A = some (.lst acc) ∧ acc.length < sizeLine ∧ Nx1 (upd H7 A (.lst (acc ++ [y]))) else Nx1 H6)
        (fun j H => ∃ (W5 : Kn) (m5 : Mu) (acc : List Pk.D), Kn.le W4 W5 ∧ Grow G A W1 m1 H1 (i * cO + 0 + cEo cst c + cIt cst it1 + j * cI) acc W5 m5 H ∧
          compB gs1 p1 (inB2 Φ gv cm elt c1) (wipeE σ' own1) (items1.drop j) m5 acc fun acc' m2 => compB gs p (ouB2 Φ gv cm own1 elt c p1 it1 c1) (wipeE σ own) (items.drop (i + 1)) m2 acc' fun acc m2 => Q acc m2) ?_ ?_ ?_ ?_
      · exact ⟨W4, m4, acc, Kn.le.refl _, g4.weak (by omega), by simpa using q4⟩
      · rintro j H hj ⟨W5, m5, acc5, le5, g5, q5⟩
        exact wP1 W5 m5 H le5 g5.S (compB_gd q5)
      · rintro j x5 H5 H5' hj ⟨W5, m5, acc5, le5, g5, q5⟩ y5
        obtain ⟨d5, W6, σ5, hb5, r5, S6, st6, q6⟩ := walk_turn wY1 hj le5 g5.S q5 y5
        have g6 := g5.step S6 st6
        have n6 := g6.st.n
        have hj2 : j < line := Nat.lt_of_lt_of_le hj hlen1
        have hmul5 : (j + 1) * cI ≤ line * cI := Nat.mul_le_mul_right _ hj2
        rw [Nat.succ_mul] at hmul5
        have L6 : SlotR Z.triv W6 (wipeE σ' own1) (L2.wipe s2 own1) := ((L4.wipe own1).mono le5).mono st6.le
        refine ⟨W6, m5, _, _, σ5, hb5, S6.triv, L6, r5, fun s3 L3' hw3 => ?_⟩
        refine ⟨by rw [hw3 own1 hp1, wipe_wipe], ?_⟩
        refine ⟨W6, m5, σ5, _, q6, S6.triv, L3', (by show _ ≤ Z.lim; omega), fun b m7 H7 W7 st7 Z7 q7 => ?_⟩
        have g7 := g6.step Z7.toSRel0 st7
        cases b with
        | false =>
          rw [if_neg Bool.false_ne_true] at q7
          refine iteF ?_
          exact ⟨W7, m7, acc5, le5.trans (st6.le.trans st7.le), g7.weak (by rw [Nat.succ_mul]; omega), q7⟩
        | true =>
          rw [if_pos rfl] at q7
          refine iteT ?_
          have n7 := g7.st.n
          refine ⟨W7, m7, σ5, _, q7, Z7, L3'.mono st7.le, (by show _ ≤ Z.lim; omega), fun dv m8 v H8 W8 st8 Z8 r8 q8 => ?_⟩
          have g8 := g7.step Z8.toSRel0 st8
          obtain ⟨av, e1, e2, g9⟩ := g8.push hD r8 q8.1
          exact ⟨av, e1, e2, W8, m8, acc5 ++ [dv], le5.trans (st6.le.trans (st7.le.trans st8.le)), g9.weak (by rw [Nat.succ_mul]; omega), q8.2⟩
      · rintro H5 ⟨W5, m5, acc5, le5, g5, q5⟩
        rw [List.drop_length] at q5
        have hmul5 : items1.length * cI ≤ line * cI := Nat.mul_le_mul_right _ hlen1
        exact ⟨W5, m5, acc5, g5.weak (by rw [Nat.succ_mul]; omega), q5.2⟩
  · rintro H ⟨W', m', acc, g, q'⟩
    rw [List.drop_length] at q'
    obtain ⟨av, e1, e5⟩ := g.ex
    have hmul : items.length * cO ≤ line * cO := Nat.mul_le_mul_right _ hlen
    exact kq acc av m' H W' e1 g.f g.mm g.dr e5 g.S (g.st.weak hmul) q'.2
theorem comp2_turns {own own1 : List Nat} {p p1 : Pt} {elt : E} {it1 : It} {c c1 : Eo} (hp : ptIn own p = true) (hp1 : ptIn own1 p1 = true) {s : List (Option V)} {σ : Env} {Q : Pq} {QV : VK} {W0 W1 : Kn} {m0 m1 : Mu} {H0 H1 : Hp} {J : L2.It} {items : List D} {gs : List (Nat × List D)} {A : Addr} {c0 : Nat}
    (st1 : Step W0 m0 H0 W1 m1 H1 c0) (S1 : SRel0 G W1 m1 H1) (L : SlotR Z.triv W1 σ s) (wk : WalkD G W1 J items gs) (hlen : items.length ≤ line) (hD : H1 A = none) (hn : W0.n + (c0 + line * (cEo cst c + (cIt cst it1 + line * (cEo cst c1 + cE cst elt)))) ≤ Z.lim)
    (q : compB gs p (ouB2 Φ gv cm own1 elt c p1 it1 c1) (wipeE σ own) items m1 [] fun acc m2 => Q (.lst acc) m2)
    (kq : ∀ d m' v H' W', Step W0 m0 H0 W' m' H' (c0 + line * (cEo cst c + (cIt cst it1 + line * (cEo cst c1 + cE cst elt)))) → SRel0 G W' m' H' → Rep G W' v d → Q d m' → QV v H') :
    ∃ Wi : Nat → Nat → Hp → Prop, (∃ n, Wi 0 n (upd H1 A (.lst []))) ∧ ∀ i n H, Wi i n H →
      (J.stop i H ∧ QV (.ref A) H) ∨ (J.go i H ∧ ∃ Nx : Hp → Prop, (∀ H', Nx H' → ∃ n', n' < n ∧ Wi (i + 1) n' H') ∧ ∀ x H', J.yld i H x H' → tGp Z.triv p x (L2.wipe s own) H' fun σ2 H2 => L2.wipe σ2 own = L2.wipe s own ∧
        tT Z.triv (fun σ m Q => wpTo Φ gv cm c σ m Q (pF.at σ)) (cEo cst c) σ2 H2 fun b H3 => if b = true then
          tI Z.triv (fun σ m Q => wpIt Φ gv cm it1 σ m Q (pF.at σ)) (cIt cst it1) σ2 H3 fun J1 H4 => ∃ Wj : Nat → Nat → Hp → Prop, (∃ n, Wj 0 n H4) ∧ ∀ j n H, Wj j n H →
            (J1.stop j H ∧ Nx H) ∨ (J1.go j H ∧ ∃ Nx1 : Hp → Prop, (∀ H', Nx1 H' → ∃ n', n' < n ∧ Wj (j + 1) n' H') ∧ ∀ x H', J1.yld j H x H' → tGp Z.triv p1 x (L2.wipe σ2 own1) H' fun σ3 H5 => L2.wipe σ3 own1 = L2.wipe σ2 own1 ∧
              tT Z.triv (fun σ m Q => wpTo Φ gv cm c1 σ m Q (pF.at σ)) (cEo cst c1) σ3 H5 fun b H6 => if b = true then tE Z.triv (fun σ m Q => wpE Φ gv cm elt σ m Q (pF.at σ)) (cE cst elt) σ3 H6 fun y H7 => ∃ acc, H7 A = some (.lst acc) ∧ acc.length < sizeLine ∧ Nx1 (upd H7 A (.lst (acc ++ [y]))) else Nx1 H6)
          else Nx H3) := by
  refine comp2_turnsG (Q := fun acc m2 => Q (.lst acc) m2) hp hp1 st1 S1 L wk hlen hD hn q ?_
  intro acc av m' H W' e1 e2 e3 e4 e5 S' st' q'
  have ne : ∀ {b : Addr} {u : HO}, H1 b = some u → b ≠ A := fun {b u} q z => by rw [z, hD] at q; cases q
  have le2 := le_new (W := W') (o := .lst av) e2
  refine kq (.lst acc) m' (.ref A) H (W'.new A (.lst av)) ?_ (S'.freeze e1 e2 e3 e4) (.lst (by show upd W'.F A _ A = _; exact upd_same) (RepL.mono le2 _ e5)) q'
  refine Step.trans0 S1 st1 ⟨st'.le.trans le2, st'.kp, fun b o q k1 k2 k3 => ?_, st'.dk, st'.th, st'.n⟩
  obtain ⟨z1, z2⟩ := st'.uk b o q k1 k2 k3
  refine ⟨?_, z2⟩
  show upd W'.F A (.lst av) b = none
  rw [upd_ne (ne q)]
  exact z1
theorem comp2_turnsB {own own1 : List Nat} {p p1 : Pt} {elt : E} {it1 : It} {c c1 : Eo} (hp : ptIn own p = true) (hp1 : ptIn own1 p1 = true) {s : List (Option V)} {σ : Env} {Q : List Pk.D → Mu → Prop} {QV : VK} {W0 W1 : Kn} {m0 m1 : Mu} {H0 H1 : Hp} {J : L2.It} {items : List D} {gs : List (Nat × List D)} {A : Addr} {c0 : Nat}
    (st1 : Step W0 m0 H0 W1 m1 H1 c0) (S1 : SRel0 G W1 m1 H1) (L : SlotR Z.triv W1 σ s) (wk : WalkD G W1 J items gs) (hlen : items.length ≤ line) (hD : H1 A = none) (hn : W0.n + (c0 + line * (cEo cst c + (cIt cst it1 + line * (cEo cst c1 + cE cst elt)))) ≤ Z.lim)
    (q : compB gs p (ouB2 Φ gv cm own1 elt c p1 it1 c1) (wipeE σ own) items m1 [] fun acc m2 => Q acc m2)
    (kq : ∀ acc m' p H' W', m' p = none → Step W0 m0 H0 W' (mup m' p (some (.lst acc))) H' (c0 + line * (cEo cst c + (cIt cst it1 + line * (cEo cst c1 + cE cst elt)))) → SRel0 G W' (mup m' p (some (.lst acc))) H' → Q acc m' → QV (.ref p) H') :
    ∃ Wi : Nat → Nat → Hp → Prop, (∃ n, Wi 0 n (upd H1 A (.lst []))) ∧ ∀ i n H, Wi i n H →
      (J.stop i H ∧ QV (.ref A) H) ∨ (J.go i H ∧ ∃ Nx : Hp → Prop, (∀ H', Nx H' → ∃ n', n' < n ∧ Wi (i + 1) n' H') ∧ ∀ x H', J.yld i H x H' → tGp Z.triv p x (L2.wipe s own) H' fun σ2 H2 => L2.wipe σ2 own = L2.wipe s own ∧
        tT Z.triv (fun σ m Q => wpTo Φ gv cm c σ m Q (pF.at σ)) (cEo cst c) σ2 H2 fun b H3 => if b = true then
          tI Z.triv (fun σ m Q => wpIt Φ gv cm it1 σ m Q (pF.at σ)) (cIt cst it1) σ2 H3 fun J1 H4 => ∃ Wj : Nat → Nat → Hp → Prop, (∃ n, Wj 0 n H4) ∧ ∀ j n H, Wj j n H →
            (J1.stop j H ∧ Nx H) ∨ (J1.go j H ∧ ∃ Nx1 : Hp → Prop, (∀ H', Nx1 H' → ∃ n', n' < n ∧ Wj (j + 1) n' H') ∧ ∀ x H', J1.yld j H x H' → tGp Z.triv p1 x (L2.wipe σ2 own1) H' fun σ3 H5 => L2.wipe σ3 own1 = L2.wipe σ2 own1 ∧
              tT Z.triv (fun σ m Q => wpTo Φ gv cm c1 σ m Q (pF.at σ)) (cEo cst c1) σ3 H5 fun b H6 => if b = true then tE Z.triv (fun σ m Q => wpE Φ gv cm elt σ m Q (pF.at σ)) (cE cst elt) σ3 H6 fun y H7 => ∃ acc, H7 A = some (.lst acc) ∧ acc.length < sizeLine ∧ Nx1 (upd H7 A (.lst (acc ++ [y]))) else Nx1 H6)
          else Nx H3) := by
  refine comp2_turnsG (Q := Q) hp hp1 st1 S1 L wk hlen hD hn q ?_
  intro acc av m' H W' e1 e2 e3 e4 e5 S' st' q'
  have ne : ∀ {b : Addr} {u : HO}, H1 b = some u → b ≠ A := fun {b u} q z => by rw [z, hD] at q; cases q
  have me : ∀ {b : Addr}, b ≠ A → mup m' A (some (.lst acc)) b = m' b := fun {b} hb => by show (if b = A then _ else m' b) = m' b; rw [if_neg hb]
  refine kq acc m' A H W' e3 ?_ (S'.boxUp e1 e2 e4 e5) q'
  refine Step.trans0 S1 st1 ⟨st'.le, st'.kp, fun b o q k1 k2 k3 => ?_, st'.dk, st'.th, st'.n⟩
  obtain ⟨z1, z2⟩ := st'.uk b o q k1 k2 k3
  exact ⟨z1, (me (ne q)).trans z2⟩
theorem all_in {own own1 : List Nat} {N : List Str} (h : own1.all (fun i => own.contains i) = true) : ∀ i ∈ own1, i ∈ (ownN N own).map (·.2) := by
  intro i hi
  rw [own_snd]
  exact List.contains_iff_mem.mp (List.all_eq_true.mp h i hi)
theorem comp2_imp (hxs : cm = true → Z.xs = none) {own own1 : List Nat} {p p1 : Pt} {it it1 : It} {elt : E} {c c1 : Eo} (h3 : ptIn own p = true) (h4 : ptIn own1 p1 = true) {s : List (Option V)} {H : Hp} {QV : VK}
    (q : tE Z (fun σ m Q => wpE Φ gv cm (.comp2 own own1 elt p it c p1 it1 c1) σ m Q (px.at σ)) (cE cst (.comp2 own own1 elt p it c p1 it1 c1)) s H QV) :
    tLc2 (tI Z (fun σ m Q => wpIt Φ gv cm it σ m Q (px.at σ)) (cIt cst it)) (tGp Z.triv p) (tT Z.triv (fun σ m Q => wpTo Φ gv cm c σ m Q (pF.at σ)) (cEo cst c)) (tI Z.triv (fun σ m Q => wpIt Φ gv cm it1 σ m Q (pF.at σ)) (cIt cst it1)) (tGp Z.triv p1)
      (tT Z.triv (fun σ m Q => wpTo Φ gv cm c1 σ m Q (pF.at σ)) (cEo cst c1)) (tE Z.triv (fun σ m Q => wpE Φ gv cm elt σ m Q (pF.at σ)) (cE cst elt)) own own1 s H QV := by
  obtain ⟨W, m, σ, Q, hw, S, L, hn, kq⟩ := q
  have hn : W.n + (cIt cst it + line * (cEo cst c + (cIt cst it1 + line * (cEo cst c1 + cE cst elt)))) ≤ Z.lim := hn
  refine ⟨W, m, σ, _, hw.2, S, L, by omega, fun items gs m1 H1 W1 J st1 S1 wk hlen q1 => ?_⟩
  intro A hA
  exact comp2_turns h3 h4 st1 S1.toSRel0 ((L.mono st1.le).triv (hxs hw.1)) wk hlen hA hn q1 fun d m' v H' W' st S' r q => kq d m' v H' W' st (S.step S' st) r q
theorem snd_comp2 (h : XOk Z px cm cst Φ gv k C X) (own own1 : List Nat) {elt : E} (p p1 : Pt) {it it1 : It} {c c1 : Eo} {lel : Scope → Lk} {lit : Expr → Lk} {lit1 : Scope → Expr → Lk} {lc lc1 : Scope → List Expr → Bool}
    (he2 : ∀ (scope : Scope) (X' : Cx), XOk Z.triv pF cm cst Φ gv k (C.blk scope) X' → OkP Z.triv X' (lel scope) (fun σ m Q => wpE Φ gv cm elt σ m Q (pF.at σ)) (cE cst elt))
    (hc : ∀ (scope : Scope) (X' : Cx), XOk Z.triv pF cm cst Φ gv k (C.blk scope) X' → OkTs Z.triv X' (lc scope) (fun σ m Q => wpTo Φ gv cm c σ m Q (pF.at σ)) (cEo cst c))
    (hi : OkI Z X lit (fun σ m Q => wpIt Φ gv cm it σ m Q (px.at σ)) (cIt cst it))
    (hi1 : ∀ (scope : Scope) (X' : Cx), XOk Z.triv pF cm cst Φ gv k (C.blk scope) X' → OkI Z.triv X' (lit1 scope) (fun σ m Q => wpIt Φ gv cm it1 σ m Q (pF.at σ)) (cIt cst it1))
    (hc1 : ∀ (scope : Scope) (X' : Cx), XOk Z.triv pF cm cst Φ gv k (C.blk scope) X' → OkTs Z.triv X' (lc1 scope) (fun σ m Q => wpTo Φ gv cm c1 σ m Q (pF.at σ)) (cEo cst c1)) :
    OkP Z X (mComp2 C own own1 lel p lit lc p1 lit1 lc1) (fun σ m Q => wpE Φ gv cm (.comp2 own own1 elt p it c p1 it1 c1) σ m Q (px.at σ)) (cE cst (.comp2 own own1 elt p it c p1 it1 c1)) := by
  intro pe hm
  rcases bool_cases cm with hcm | hcm
  case inr =>
    refine ⟨fun pins s σ H QV I q => ?_⟩
    obtain ⟨W, m, σ, Q, hw, S, L, hn, kq⟩ := q
    have := hw.1
    rw [hcm] at this
    cases this
  unfold mComp2 at hm
  split at hm
  · rename_i pelt pp pit pifs pp1 pit1 pifs1 scope pos
    simp only [Bool.and_eq_true] at hm
    obtain ⟨⟨⟨⟨⟨⟨⟨⟨⟨⟨⟨⟨h1, h2⟩, h2b⟩, h3⟩, h3b⟩, h3c⟩, h4⟩, h5⟩, h6⟩, h7⟩, h8⟩, h9⟩, h10⟩ := hm
    have hblk : L2.BlkOk X.N X.env.scope scope (ownN C.N own) := by
      rw [h.N, h.sc]
      exact L2.blkOk_by h1
    have hpe := pe_lc2 (pos := pos) (h.calm hcm) (by rw [h.N]; exact h.nd) (hi _ _ h4) hblk (all_in h3c) (fun s H A cl fp => snd_pt (h.blk s H scope A cl fp hcm) p pp (ptB_of hcm) h5) (fun s H A cl fp => hc scope _ (h.blk s H scope A cl fp hcm) pifs h7)
      (fun s H A cl fp => hi1 scope _ (h.blk s H scope A cl fp hcm) pp1 pit1 h8) (fun s H A cl fp => snd_pt (h.blk s H scope A cl fp hcm) p1 pp1 (ptB_of hcm) h9) (fun s H A cl fp => hc1 scope _ (h.blk s H scope A cl fp hcm) pifs1 h10)
      (fun s H A cl fp => he2 scope _ (h.blk s H scope A cl fp hcm) pelt h6) (foldedSet_of h2 _) (fun env => foldedSet_of h2b env)
    rw [own_snd] at hpe
    exact PE.of hpe fun s H QV q => comp2_imp (px := px) (cm := cm) h.xs0 h3 h3b q
  · cases hm
end
end Pk

/-! Lists of their own, as boxes. -/
namespace Pk
open PySem L2
section
variable {G : Gs} {Z : Zs G} {px : PxE} {cm : Bool} {cst : Nat → Nat} {Φ : Fs} {gv : Nat → D} {k : Nat} {C : Ct} {X : Cx}
theorem snd_bxL {es : Es} {l : List Expr → Bool} (h : OkA Z X l (fun σ m Q => wpEs Φ gv cm es σ m Q (px.at σ)) (cEs cst es)) :
    OkP Z X (mLst l) (fun σ m Q => wpE Φ gv cm (.bx (.lst es)) σ m Q (px.at σ)) (cEs cst es) := by
  intro pe hl
  unfold mLst at hl
  split at hl
  · obtain ⟨h1, h2⟩ := Bool.and_eq_true_iff.mp hl
    refine PE.of (pe_lst (h _ h2)) ?_
    intro s H QV q
    obtain ⟨W, m, σ, Q, hw, S, L, hn, kq⟩ := q
    refine ⟨W, m, σ, fun ds m1 => ∀ a, m1 a = .none → Q (.ref a) (mup m1 a (some (.lst ds))), hw, S, L, hn, fun ds m1 vs H1 W1 hz st1 S1 rs q1 => ?_⟩
    have hl : vs.length ≤ sizeLine := by
      rw [rs.length, hz]
      exact Nat.le_trans (of_decide_eq_true h1) (by decide)
    refine ⟨hl, fun p hp => ?_⟩
    obtain ⟨S2, st2⟩ := S1.box hp rs hl
    exact kq _ _ _ _ W1 ((Step.trans S1 st1 st2).weak (by omega)) S2 (.ref p) (q1 p (S1.none hp).2.1)
  · cases hl
theorem snd_bxC (h : XOk Z px cm cst Φ gv k C X) (own : List Nat) {elt : E} (p : Pt) {it : It} {c : Eo} {lel : Scope → Lk} {lit : Expr → Lk} {lc : Scope → List Expr → Bool}
    (he2 : ∀ (scope : Scope) (X' : Cx), XOk Z.triv pF cm cst Φ gv k (C.blk scope) X' → OkP Z.triv X' (lel scope) (fun σ m Q => wpE Φ gv cm elt σ m Q (pF.at σ)) (cE cst elt))
    (hc : ∀ (scope : Scope) (X' : Cx), XOk Z.triv pF cm cst Φ gv k (C.blk scope) X' → OkTs Z.triv X' (lc scope) (fun σ m Q => wpTo Φ gv cm c σ m Q (pF.at σ)) (cEo cst c))
    (hi : OkI Z X lit (fun σ m Q => wpIt Φ gv cm it σ m Q (px.at σ)) (cIt cst it)) :
    OkP Z X (mComp C own lel p lit lc) (fun σ m Q => wpE Φ gv cm (.bx (.comp own elt p it c)) σ m Q (px.at σ)) (cIt cst it + line * (cEo cst c + cE cst elt)) := by
  intro pe hm
  rcases bool_cases cm with hcm | hcm
  case inr =>
    refine ⟨fun pins s σ H QV I q => ?_⟩
    obtain ⟨W, m, σ, Q, hw, S, L, hn, kq⟩ := q
    have := hw.1
    rw [hcm] at this
    cases this
  unfold mComp at hm
  split at hm
  · rename_i pelt pp pit pifs scope pos
    simp only [Bool.and_eq_true] at hm
    obtain ⟨⟨⟨⟨⟨⟨h1, h2⟩, h3⟩, h4⟩, h5⟩, h6⟩, h7⟩ := hm
    have hblk : L2.BlkOk X.N X.env.scope scope (ownN C.N own) := by
      rw [h.N, h.sc]
      exact L2.blkOk_by h1
    have hpe := pe_lc (pos := pos) (h.calm hcm) (by rw [h.N]; exact h.nd) (hi _ _ h4) hblk (fun s H D cl fp => snd_pt (h.blk s H scope D cl fp hcm) p pp (ptB_of hcm) h5) (fun s H D cl fp => hc scope _ (h.blk s H scope D cl fp hcm) pifs h7)
      (fun s H D cl fp => he2 scope _ (h.blk s H scope D cl fp hcm) pelt h6) (foldedSet_of h2 _)
    rw [own_snd] at hpe
    refine PE.of hpe ?_
    intro s H QV q
    obtain ⟨W, m, σ, Q, hw, S, L, hn, kq⟩ := q
    refine ⟨W, m, σ, _, hw.2, S, L, by omega, fun items gs m1 H1 W1 J st1 S1 wk hlen q1 => ?_⟩
    intro D hD
    exact comp_turnsB (Q := fun ds m1 => ∀ a, m1 a = Option.none → Q (.ref a) (mup m1 a (some (.lst ds)))) h3 st1 S1.toSRel0 ((L.mono st1.le).triv (h.xs0 hcm)) wk hlen hD hn q1 fun acc m' a H' W' e st S' q => kq _ _ _ H' W' st (S.step S' st) (.ref a) (q a e)
  · cases hm
theorem snd_bxC2 (h : XOk Z px cm cst Φ gv k C X) (own own1 : List Nat) {elt : E} (p p1 : Pt) {it it1 : It} {c c1 : Eo} {lel : Scope → Lk} {lit : Expr → Lk} {lit1 : Scope → Expr → Lk} {lc lc1 : Scope → List Expr → Bool}
    (he2 : ∀ (scope : Scope) (X' : Cx), XOk Z.triv pF cm cst Φ gv k (C.blk scope) X' → OkP Z.triv X' (lel scope) (fun σ m Q => wpE Φ gv cm elt σ m Q (pF.at σ)) (cE cst elt))
    (hc : ∀ (scope : Scope) (X' : Cx), XOk Z.triv pF cm cst Φ gv k (C.blk scope) X' → OkTs Z.triv X' (lc scope) (fun σ m Q => wpTo Φ gv cm c σ m Q (pF.at σ)) (cEo cst c))
    (hi : OkI Z X lit (fun σ m Q => wpIt Φ gv cm it σ m Q (px.at σ)) (cIt cst it))
    (hi1 : ∀ (scope : Scope) (X' : Cx), XOk Z.triv pF cm cst Φ gv k (C.blk scope) X' → OkI Z.triv X' (lit1 scope) (fun σ m Q => wpIt Φ gv cm it1 σ m Q (pF.at σ)) (cIt cst it1))
    (hc1 : ∀ (scope : Scope) (X' : Cx), XOk Z.triv pF cm cst Φ gv k (C.blk scope) X' → OkTs Z.triv X' (lc1 scope) (fun σ m Q => wpTo Φ gv cm c1 σ m Q (pF.at σ)) (cEo cst c1)) :
    OkP Z X (mComp2 C own own1 lel p lit lc p1 lit1 lc1) (fun σ m Q => wpE Φ gv cm (.bx (.comp2 own own1 elt p it c p1 it1 c1)) σ m Q (px.at σ)) (cE cst (.bx (.comp2 own own1 elt p it c p1 it1 c1))) := by
  intro pe hm
  rcases bool_cases cm with hcm | hcm
  case inr =>
    refine ⟨fun pins s σ H QV I q => ?_⟩
    obtain ⟨W, m, σ, Q, hw, S, L, hn, kq⟩ := q
    have := hw.1
    rw [hcm] at this
    cases this
  unfold mComp2 at hm
  split at hm
  · rename_i pelt pp pit pifs pp1 pit1 pifs1 scope pos
    simp only [Bool.and_eq_true] at hm
    obtain ⟨⟨⟨⟨⟨⟨⟨⟨⟨⟨⟨⟨h1, h2⟩, h2b⟩, h3⟩, h3b⟩, h3c⟩, h4⟩, h5⟩, h6⟩, h7⟩, h8⟩, h9⟩, h10⟩ := hm
    have hblk : L2.BlkOk X.N X.env.scope scope (ownN C.N own) := by
      rw [h.N, h.sc]
      exact L2.blkOk_by h1
    have hpe := pe_lc2 (pos := pos) (h.calm hcm) (by rw [h.N]; exact h.nd) (hi _ _ h4) hblk (all_in h3c) (fun s H A cl fp => snd_pt (h.blk s H scope A cl fp hcm) p pp (ptB_of hcm) h5) (fun s H A cl fp => hc scope _ (h.blk s H scope A cl fp hcm) pifs h7)
      (fun s H A cl fp => hi1 scope _ (h.blk s H scope A cl fp hcm) pp1 pit1 h8) (fun s H A cl fp => snd_pt (h.blk s H scope A cl fp hcm) p1 pp1 (ptB_of hcm) h9) (fun s H A cl fp => hc1 scope _ (h.blk s H scope A cl fp hcm) pifs1 h10)
      (fun s H A cl fp => he2 scope _ (h.blk s H scope A cl fp hcm) pelt h6) (foldedSet_of h2 _) (fun env => foldedSet_of h2b env)
    rw [own_snd] at hpe
    refine PE.of hpe ?_
    intro s H QV q
    obtain ⟨W, m, σ, Q, hw, S, L, hn, kq⟩ := q
    have hn : W.n + (cIt cst it + line * (cEo cst c + (cIt cst it1 + line * (cEo cst c1 + cE cst elt)))) ≤ Z.lim := hn
    refine ⟨W, m, σ, _, hw.2, S, L, by omega, fun items gs m1 H1 W1 J st1 S1 wk hlen q1 => ?_⟩
    intro A hA
    exact comp2_turnsB (Q := fun ds m1 => ∀ a, m1 a = Option.none → Q (.ref a) (mup m1 a (some (.lst ds)))) h3 h3b st1 S1.toSRel0 ((L.mono st1.le).triv (h.xs0 hcm)) wk hlen hA hn q1
      fun acc m' a H' W' e st S' q => kq _ _ _ H' W' st (S.step S' st) (.ref a) (q a e)
  · cases hm
theorem bx_of {e : E} {C : Ct} {c : Nat} (h : isFr e = true → OkP Z X (mE e C) (fun σ m Q => wpE Φ gv cm (.bx e) σ m Q (px.at σ)) c) : OkP Z X (mE (.bx e) C) (fun σ m Q => wpE Φ gv cm (.bx e) σ m Q (px.at σ)) c := by
  intro pe hm
  have hm : (isFr e && mE e C pe) = true := hm
  obtain ⟨h1, h2⟩ := Bool.and_eq_true_iff.mp hm
  exact h h1 pe h2
/-- list(..), as a box -/
def rLB (Z : Zs G) : List V → Hp → VK → Prop := fun vs H QV => ∃ (W : Kn) (m : Mu) (ds : List D) (Q : Pq), biR .list m ds (fun d => match d with | .lst es => ∀ a, m a = Option.none → Q (.ref a) (mup m a (some (.lst es))) | _ => False) ∧ SRel Z W m H ∧ RepL G W vs ds ∧
  ∀ d m' v H' W', Step W m H W' m' H' 0 → SRel Z W' m' H' → Rep G W' v d → Q d m' → QV v H'
theorem rLB_ok (hK : X.K = G.K) : CallR X (.type "list") (rLB Z) := by
  intro pins s σ H xs us Q I r h
  obtain ⟨W, m, ds, Qd, hr, S, rl, k⟩ := h
  match ds, hr with
  | [x], hr =>
    obtain ⟨v, rfl, r1⟩ := repL1 rl
    have hr : (match rd m x with
      | .lst es => ∀ a, m a = Option.none → Qd (.ref a) (mup m a (some (.lst es)))
      | .tup es => ∀ a, m a = Option.none → Qd (.ref a) (mup m a (some (.lst es)))
      | _ => False) := by
      have h0 : (match rd m x with
        | .lst ds => _
        | .tup ds => _
        | _ => False) := hr
      revert h0
      cases rd m x <;> intro h0 <;> first | exact h0 | exact h0.elim
    split at hr
    · rename_i e
      obtain ⟨a, xs, rfl, h1, q1⟩ := rd_lst S r1 e
      refine call_list_of pins s σ H _ us Q I r ⟨a, xs, rfl, .inl (.of h1), fun l hl => ?_⟩
      obtain ⟨S2, st2⟩ := S.box hl q1 (S.bd a xs (.inl h1))
      exact k _ _ _ _ W st2 S2 (.ref l) (hr l (S.none hl).2.1)
    · rename_i e
      obtain ⟨a, xs, rfl, h1, q1⟩ := rd_tup S r1 e
      have hb : xs.length ≤ sizeLine := by
        have h1' : SqT X.K H a xs := by rw [hK]; exact h1
        obtain ⟨_, _, _, z⟩ := I.tuple h1'
        exact z
      refine call_list_of pins s σ H _ us Q I r ⟨a, xs, rfl, .inr (by rw [hK]; exact h1), fun l hl => ?_⟩
      obtain ⟨S2, st2⟩ := S.box hl q1 hb
      exact k _ _ _ _ W st2 S2 (.ref l) (hr l (S.none hl).2.1)
    · exact hr.elim
theorem snd_bxBi (h : XOk Z px cm cst Φ gv k C X) (f : Bi) {es : Es} (hf : isFr (.bi f es) = true) {l : List Expr → Bool} (he : OkA Z X l (fun σ m Q => wpEs Φ gv cm es σ m Q (px.at σ)) (cEs cst es)) :
    OkP Z X (mBi C f l) (fun σ m Q => wpE Φ gv cm (.bx (.bi f es)) σ m Q (px.at σ)) (cEs cst es) := by
  have hf2 : f = .list := by cases f <;> first | rfl | cases hf
  subst hf2
  have key : ∀ n s H QV, tE Z (fun σ m Q => wpE Φ gv cm (.bx (.bi .list es)) σ m Q (px.at σ)) (cEs cst es) s H QV → tCB (rLB Z) (tA Z (fun σ m Q => wpEs Φ gv cm es σ m Q (px.at σ)) (cEs cst es) n) s H QV := by
    intro n s H QV q
    obtain ⟨W, m, σ, Q, hw, S, L, hn, kq⟩ := q
    refine ⟨W, m, σ, _, hw.2, S, L, by omega, fun ds m1 vs H1 W1 _ st1 S1 rs q1 => ?_⟩
    exact ⟨W1, m1, ds, Q, q1, S1, rs, fun d m' v H' W' st2 S2 r q2 => kq d m' v H' W' ((Step.trans S1 st1 st2).weak (by omega)) S2 r q2⟩
  intro pe hm
  unfold mBi at hm
  split at hm
  · simp only [Bool.and_eq_true, decide_eq_true_eq] at hm
    obtain ⟨⟨⟨⟨h1, h2⟩, h3⟩, h4⟩, h5⟩ := hm
    subst h1
    obtain ⟨g1, g2, g3⟩ := bl_of h h2
    rcases biB .list with ⟨id, e1, e2⟩ | ⟨id, e1, e2⟩
    · cases e1
    · cases e1
      exact PE.of (pe_callTy (rLB_ok h.K) g1 g3 e2 (he _ h5) (biNm .list) g2 (star1 h3) (star_plain h4)) (key _)
  · cases hm
end
end Pk

/-! Methods of lists, list(range(..)), in over data. -/
namespace Pk
open PySem L2
section
variable {G : Gs} {Z : Zs G} {px : PxE} {cm : Bool} {cst : Nat → Nat} {Φ : Fs} {gv : Nat → D} {k : Nat} {C : Ct} {X : Cx}
def rMt {G : Gs} (Z : Zs G) (f : Mt) : V → List V → Hp → VK → Prop := fun x vs H QV => ∃ (W : Kn) (m : Mu) (dx : D) (ds : List D) (Q : Pq), mtR f m dx ds Q ∧ SRel Z W m H ∧ Rep G W x dx ∧ RepL G W vs ds ∧
  ∀ d v m' H' W', Step W m H W' m' H' 0 → SRel Z W' m' H' → Rep G W' v d → Q d m' → QV v H'
theorem seqIx_of {n len : Nat} (h : n < len) : seqIndex? (n : Nat) len = some n := by
  have e : (if ((n : Nat) : Int) < 0 then ((n : Nat) : Int) + (len : Int) else ((n : Nat) : Int)) = (n : Int) := if_neg (by omega)
  unfold seqIndex?
  simp only [e]
  simp [h]
theorem RepL.eraseIdx {W : Kn} : ∀ (n : Nat) {vs : List V} {ds : List D}, RepL G W vs ds → RepL G W (vs.eraseIdx n) (ds.eraseIdx n)
  | _, _, _, .nil => by simp; exact .nil
  | 0, _, _, .cons h1 h2 => by simpa using h2
  | n + 1, _, _, .cons h1 h2 => by
    rw [List.eraseIdx_cons_succ, List.eraseIdx_cons_succ]
    exact .cons h1 (RepL.eraseIdx n h2)
theorem mt_pop_ok : MtR X "list.pop" (rMt Z .pop) := by
  intro pins s σ H x xs v us Q I rx rs h
  obtain ⟨W, m, dx, ds, Qd, hr, S, r, rl, kq⟩ := h
  unfold mtR at hr
  split at hr <;> try (first | (rename_i e; cases e; done) | exact hr.elim)
  rename_i p e1 
  cases r
  cases rl
  obtain ⟨es, d, q1, q2⟩ := hr
  obtain ⟨vs, x1, x2⟩ := S.bx p _ q1
  have hl : vs.length = es.length + 1 := by rw [x2.length]; simp
  have hne : vs ≠ [] := fun z => by rw [z] at hl; simp at hl
  have hlast : vs[vs.length - 1]? = some (vs.getLast hne) := by rw [List.getLast_eq_getElem]; exact List.getElem?_eq_getElem _
  obtain ⟨d', e1, e2⟩ := x2.getV hlast
  have hd : d' = d := by
    rw [hl, Nat.add_sub_cancel] at e1
    simpa using e1.symm
  subst hd
  have hz : vs.length ≤ sizeLine := S.bd p _ (.inl x1)
  have rdl : RepL G W vs.dropLast es := by
    have := x2.take es.length
    rw [List.take_left] at this
    rw [List.dropLast_eq_take, hl, Nat.add_sub_cancel]
    exact this
  obtain ⟨S2, st2⟩ := S.wr (ds' := es) (vs' := vs.dropLast) q1 rdl (by rw [List.length_dropLast]; omega)
  exact mt_pop pins s σ H _ _ v us Q I rx rs ⟨p, vs, _, rfl, rfl, x1, hlast, kq _ _ _ _ _ st2 S2 e2 q2⟩
theorem mt_popAt_ok : MtR X "list.pop" (rMt Z .popAt) := by
  intro pins s σ H x xs v us Q I rx rs h
  obtain ⟨W, m, dx, ds, Qd, hr, S, r, rl, kq⟩ := h
  unfold mtR at hr
  split at hr <;> try (first | (rename_i e; cases e; done) | exact hr.elim)
  rename_i p j e1
  cases r
  cases rl with
  | cons rj rl =>
  cases rl
  cases rj
  obtain ⟨es, n, d, q1, ⟨b1, b2⟩, hn, q3, q2⟩ := hr
  obtain ⟨vs, x1, x2⟩ := S.bx p _ q1
  obtain ⟨y, y1, y2⟩ := x2.get q3
  have hz : vs.length ≤ sizeLine := S.bd p _ (.inl x1)
  have hlt := (List.getElem?_eq_some_iff.mp y1).1
  have b2' : j ≤ 16777216 := b2
  have ej : j = (n : Nat) := by omega
  obtain ⟨S2, st2⟩ := S.wr (ds' := es.eraseIdx n) (vs' := vs.eraseIdx n) q1 (RepL.eraseIdx n x2) (by rw [List.length_eraseIdx]; split <;> omega)
  exact mt_popAt pins s σ H _ _ v us Q I rx rs ⟨p, vs, j, n, y, rfl, rfl, x1, by omega, by omega, by rw [ej]; exact seqIx_of hlt, y1, kq _ _ _ _ _ st2 S2 y2 q2⟩
theorem mt_insert_ok : MtR X "list.insert" (rMt Z .insert) := by
  intro pins s σ H x xs v us Q I rx rs h
  obtain ⟨W, m, dx, ds, Qd, hr, S, r, rl, kq⟩ := h
  unfold mtR at hr
  split at hr <;> try (first | (rename_i e; cases e; done) | exact hr.elim)
  rename_i p j y e1
  cases r
  cases rl with
  | cons rj rl =>
  cases rl with
  | cons ry rl =>
  cases rl
  cases rj
  obtain ⟨es, q1, ⟨b1, b2⟩, hlt, q2⟩ := hr
  obtain ⟨vs, x1, x2⟩ := S.bx p _ q1
  have hz : vs.length < sizeLine := by rw [x2.length, ← line_eq]; exact hlt
  have b2' : j ≤ 16777216 := b2
  obtain ⟨S2, st2⟩ := S.wr q1 (((x2.take j.toNat).append (.cons ry .nil)).append (x2.drop j.toNat)) (by
    rw [List.length_append, List.length_append, List.length_take, List.length_drop, List.length_singleton]
    omega)
  exact mt_insert pins s σ H _ _ v us Q I rx rs ⟨p, vs, j, _, rfl, rfl, x1, hz, b1, by omega, kq _ _ _ _ _ st2 S2 .non q2⟩
theorem mt_extend_ok : MtR X "list.extend" (rMt Z .extend) := by
  intro pins s σ H x xs v us Q I rx rs h
  obtain ⟨W, m, dx, ds, Qd, hr, S, r, rl, kq⟩ := h
  unfold mtR at hr
  split at hr <;> try (first | (rename_i e; cases e; done) | exact hr.elim)
  rename_i p y e1
  cases r
  cases rl with
  | cons ry rl =>
  cases rl
  obtain ⟨es, fs, q1, qr, hlt, q2⟩ := hr
  obtain ⟨vs, x1, x2⟩ := S.bx p _ q1
  obtain ⟨b, ws, rfl, y1, y2⟩ := rd_lst S ry qr
  have hz : vs.length + ws.length ≤ sizeLine := by rw [x2.length, y2.length, ← line_eq]; exact hlt
  obtain ⟨S2, st2⟩ := S.wr (ds' := es ++ fs) (vs' := vs ++ ws) q1 (x2.append y2) (by rw [List.length_append]; exact hz)
  exact mt_extend pins s σ H _ _ v us Q I rx rs ⟨p, b, vs, ws, rfl, rfl, x1, y1, hz, kq _ _ _ _ _ st2 S2 .non q2⟩
theorem mt_reverse_ok : MtR X "list.reverse" (rMt Z .reverse) := by
  intro pins s σ H x xs v us Q I rx rs h
  obtain ⟨W, m, dx, ds, Qd, hr, S, r, rl, kq⟩ := h
  unfold mtR at hr
  split at hr <;> try (first | (rename_i e; cases e; done) | exact hr.elim)
  rename_i p e1
  cases r
  cases rl
  obtain ⟨es, q1, q2⟩ := hr
  obtain ⟨vs, x1, x2⟩ := S.bx p _ q1
  obtain ⟨S2, st2⟩ := S.wr q1 x2.reverse (by rw [List.length_reverse]; exact S.bd p _ (.inl x1))
  exact mt_reverse pins s σ H _ _ v us Q I rx rs ⟨p, vs, rfl, rfl, x1, kq _ _ _ _ _ st2 S2 .non q2⟩
theorem mt_clear_ok : MtR X "list.clear" (rMt Z .clear) := by
  intro pins s σ H x xs v us Q I rx rs h
  obtain ⟨W, m, dx, ds, Qd, hr, S, r, rl, kq⟩ := h
  unfold mtR at hr
  split at hr <;> try (first | (rename_i e; cases e; done) | exact hr.elim)
  rename_i p e1
  cases r
  cases rl
  obtain ⟨es, q1, q2⟩ := hr
  obtain ⟨vs, x1, x2⟩ := S.bx p _ q1
  obtain ⟨S2, st2⟩ := S.wr (ds' := []) (vs' := []) q1 .nil (Nat.zero_le _)
  exact mt_clear pins s σ H _ _ v us Q I rx rs ⟨p, vs, rfl, rfl, x1, kq _ _ _ _ _ st2 S2 .non q2⟩
theorem idx_of : ∀ {ds : List D} {x : D} {j : Nat}, idxD x ds = some j → (∃ d, ds[j]? = some d ∧ eqD d x = true) ∧ ∀ i d, i < j → ds[i]? = some d → eqD d x = false
  | [], _, _, h => by cases h
  | y :: r, x, j, h => by
    unfold idxD at h
    cases e : eqD y x with
    | true =>
      rw [e, if_pos rfl] at h
      cases h
      exact ⟨⟨y, rfl, e⟩, fun i d hi => absurd hi (Nat.not_lt_zero _)⟩
    | false =>
      rw [e, if_neg Bool.false_ne_true] at h
      cases q : idxD x r with
      | none => rw [q] at h; cases h
      | some n =>
        rw [q] at h
        have h : n + 1 = j := by simpa using h
        subst h
        obtain ⟨⟨d, h1, h2⟩, h3⟩ := idx_of q
        refine ⟨⟨d, by simpa using h1, h2⟩, fun i d' hi hd => ?_⟩
        cases i with
        | zero => simp at hd; rw [← hd]; exact e
        | succ i => exact h3 i d' (by omega) (by simpa using hd)
theorem flatL_mem : ∀ {n : Nat} {ds : List D} {d : D}, flatL n ds = true → d ∈ ds → flatD n d = true
  | n, e :: ds, d, h, hd => by
    unfold flatL at h
    obtain ⟨h1, h2⟩ := Bool.and_eq_true_iff.mp h
    rcases List.mem_cons.mp hd with e | e
    · subst e
      exact h1
    · exact flatL_mem h2 e
theorem pyDL_map : ∀ ds : List D, pyD (.lst ds) = .list (ds.map pyD) := by
  intro ds
  have key : ∀ ds : List D, pyL ds = ds.map pyD := by
    intro ds
    induction ds with
    | nil => rfl
    | cons d ds ih => unfold pyL; rw [ih]; rfl
  unfold pyD
  rw [key]
mutual
theorem flat_up : ∀ {n : Nat} {d : D}, flatD n d = true → flatD (n + 1) d = true
  | n, .non, _ => by unfold flatD; rfl
  | n, .bl _, _ => by unfold flatD; rfl
  | n, .int _, _ => by unfold flatD; rfl
  | n, .str s, h => by unfold flatD at h ⊢; exact h
  | n + 1, .tup ds, h => flatL_up (n := n) (ds := ds) h
  | n + 1, .lst ds, h => flatL_up (n := n) (ds := ds) h
  | 0, .tup _, h => by cases h
  | 0, .lst _, h => by cases h
  | n, .un, h => by cases n <;> cases h
  | n, .dct _, h => by cases n <;> cases h
  | n, .obj _ _, h => by cases n <;> cases h
  | n, .ref _, h => by cases n <;> cases h
  | n, .st _, h => by cases n <;> cases h
  | n, .fn _, h => by cases n <;> cases h
  | n, .scr _, h => by cases n <;> cases h
  | n, .exn _ _, h => by cases n <;> cases h
theorem flatL_up : ∀ {n : Nat} {ds : List D}, flatL n ds = true → flatL (n + 1) ds = true
  | n, [], _ => rfl
  | n, d :: ds, h => by
    have h' : (flatD n d && flatL n ds) = true := h
    obtain ⟨h1, h2⟩ := Bool.and_eq_true_iff.mp h'
    show (flatD (n + 1) d && flatL (n + 1) ds) = true
    rw [flat_up h1, flatL_up h2]
    rfl
end
theorem mt_index_ok (hK : X.K = G.K) (hu : X.A.units + 65 < cLine) : MtR X "list.index" (rMt Z .index) := by
  intro pins s σ H x xs v us Q I rx rs h
  obtain ⟨W, m, dx, ds, Qd, hr, S, r, rl, kq⟩ := h
  unfold mtR at hr
  split at hr <;> try (first | (rename_i e; cases e; done) | exact hr.elim)
  rename_i dx _ _ _ y _
  cases rl with
  | cons ry rl =>
  cases rl
  obtain ⟨es, j, q1, ⟨f1, f2⟩, q3, q2⟩ := hr
  obtain ⟨⟨d, h1, h2⟩, h3⟩ := idx_of q3
  obtain ⟨p, vs, rfl, x1, x2⟩ := rd_lst S r q1
  have fl : flatD (39 + 1) (rd m dx) = true := by rw [q1]; exact f2
  have dpx : Dp X.K H (.ref p) (pyD (rd m dx)) := dp_rd hK S r fl
  rw [q1, pyDL_map] at dpx
  have dpy : Dp X.K H _ (pyD (rd m y)) := dp_rd (n := 38) hK S ry f1
  have sh : SeqAt.shaped (.list (es.map pyD)) = true := by
    have := shaped_of fl
    rw [q1, pyDL_map] at this
    exact this
  refine mt_indexD hu pins s σ H _ _ v us Q I rx rs ⟨p, _, _, _, j, pyD d, rfl, rfl, dpx, dpy, sh, shaped_of (flat_up f1), by rw [List.getElem?_map, h1]; rfl, ?_, ?_, kq _ _ _ _ _ (Step.refl ..) S (.int _) q2⟩
  · rw [eqv_of 39 _ _ (flatL_mem f2 (List.mem_of_getElem? h1)) f1]
    exact h2
  · intro i z hi hz
    rw [List.getElem?_map] at hz
    cases q : es[i]? with
    | none => rw [q] at hz; cases hz
    | some d' =>
      rw [q] at hz
      cases hz
      rw [eqv_of 39 _ _ (flatL_mem f2 (List.mem_of_getElem? q)) f1]
      exact h3 i d' hi q
theorem ty_pop : typeOf (.builtin "list.pop") = pure (.type "method_descriptor") := PySem.F.type_list_pop
theorem snd_mth (h : XOk Z px cm cst Φ gv k C X) (f : Mt) {a : E} {es : Es} {la : Lk} {le : List Expr → Bool} (ha : OkP Z X la (fun σ m Q => wpE Φ gv cm a σ m Q (px.at σ)) (cE cst a)) (he : OkA Z X le (fun σ m Q => wpEs Φ gv cm es σ m Q (px.at σ)) (cEs cst es)) (hnil : le [] = true → es = .nil) :
    OkP Z X (mMth f la le) (fun σ m Q => wpE Φ gv cm (.mth f a es) σ m Q (px.at σ)) (cE cst a + cEs cst es) := by
  intro pe hm
  unfold mMth at hm
  split at hm
  · rename_i pa x apos ps pos
    simp only [Bool.and_eq_true, decide_eq_true_eq] at hm
    obtain ⟨⟨⟨⟨⟨⟨h1, h2⟩, h3⟩, h4⟩, h5⟩, h6⟩, h7⟩ := hm
    have hline := beq_iff_eq.mpr h3
    have key : ∀ s H QV, tE Z (fun σ m Q => wpE Φ gv cm (.mth f a es) σ m Q (px.at σ)) (cE cst a + cEs cst es) s H QV → tBM X.K "list" (rMt Z f) (tE Z (fun σ m Q => wpE Φ gv cm a σ m Q (px.at σ)) (cE cst a)) (tA Z (fun σ m Q => wpEs Φ gv cm es σ m Q (px.at σ)) (cEs cst es) ps.length) s H QV := by
      intro s H QV q
      obtain ⟨W, m, σ, Q, hw, S, L, hn, kq⟩ := q
      refine ⟨W, m, σ, _, hw, S, L, by omega, fun dx m1 vx H1 W1 st1 S1 rx q1 => ?_⟩
      have n1 := st1.n
      obtain ⟨⟨ds, e1⟩, q1⟩ := q1
      obtain ⟨p, xs, rfl, x1, x2⟩ := rd_lst S1 rx e1
      refine ⟨.inl ⟨rfl, xs, .of x1⟩, W1, m1, σ, _, q1, S1, L.mono st1.le, by omega, fun vs m2 ws H2 W2 hlen st2 S2 rs q2 => ?_⟩
      exact ⟨W2, m2, dx, vs, _, q2, S2, Rep.mono st2.le _ rx, rs, fun d v m' H' W' st3 S3 r q => kq d m' v H' W' ((Step.trans S2 (Step.trans S1 st1 st2) st3).weak (by omega)) S3 r q⟩
    have key0 : ps = [] → ∀ s H QV, tE Z (fun σ m Q => wpE Φ gv cm (.mth f a es) σ m Q (px.at σ)) (cE cst a + cEs cst es) s H QV → tBM X.K "list" (rMt Z f) (tE Z (fun σ m Q => wpE Φ gv cm a σ m Q (px.at σ)) (cE cst a)) (tA Z (fun σ m Q => wpEs Φ gv cm es σ m Q (px.at σ)) (cEs cst es) 0) s H QV := by
      intro e
      have := key
      rw [e] at this
      exact this
    have hu : X.A.units + 65 < cLine := by have := h.rooH.un; omega
    have u1 : ∀ {id : String}, f ≠ .pop → f ≠ .reverse → f ≠ .clear → Slot "list" x id → typeOf (.builtin id) = pure (.type "method_descriptor") → MtR X id (rMt Z f) → PE X (.Call (.Attribute pa x apos) ps [] pos) (tE Z (fun σ m Q => wpE Φ gv cm (.mth f a es) σ m Q (px.at σ)) (cE cst a + cEs cst es)) := by
      intro id f1 f2 f3 sl ty rule
      have hpa := he ps h7
      cases ps with
      | nil => cases f <;> first | (exact absurd rfl f1) | (exact absurd rfl f2) | (exact absurd rfl f3) | (cases h2)
      | cons p qs =>
        rw [List.all_cons, Bool.and_eq_true] at h5
        obtain ⟨s1, s2⟩ := h5
        cases qs with
        | nil => exact PE.of (pe_bm PySem.F.plainAttrs_list sl ty rule (ha _ h6) hpa (attr_of h4 _ _) (by rw [star1 s1]; rfl) hline (star1 s1) rfl) key
        | cons p2 qs2 =>
          rw [List.all_cons, Bool.and_eq_true] at s2
          obtain ⟨s3, s4⟩ := s2
          cases qs2 with
          | nil => exact PE.of (pe_bm PySem.F.plainAttrs_list sl ty rule (ha _ h6) hpa (attr_of h4 _ _) (by rw [star1 s1, star1 s3]; rfl) hline (star1 s1) (by rw [star1 s3]; rfl)) key
          | cons _ _ => cases f <;> cases h2
    have u0 : ∀ {id : String}, mtA f = 0 → Slot "list" x id → typeOf (.builtin id) = pure (.type "method_descriptor") → MtR X id (rMt Z f) → PE X (.Call (.Attribute pa x apos) ps [] pos) (tE Z (fun σ m Q => wpE Φ gv cm (.mth f a es) σ m Q (px.at σ)) (cE cst a + cEs cst es)) := by
      intro id f1 sl ty rule
      have hpa := he ps h7
      cases ps with
      | cons _ _ => rw [f1] at h2; cases h2
      | nil =>
        refine PE.of (pe_bm0 PySem.F.plainAttrs_list sl ty rule (ha _ h6) (attr_of h4 _ _) hline) fun s H QV q => ?_
        obtain ⟨W, m, σ, Q, hw, S, L, hn, kq⟩ := q
        refine ⟨W, m, σ, _, hw, S, L, by omega, fun dx m1 vx H1 W1 st1 S1 rx q1 => ?_⟩
        obtain ⟨⟨ds, e1⟩, q1⟩ := q1
        obtain ⟨p, xs, rfl, x1, x2⟩ := rd_lst S1 rx e1
        refine ⟨.inl ⟨rfl, xs, .of x1⟩, ?_⟩
        have en := hnil h7
        subst en
        exact ⟨W1, m1, dx, [], _, q1, S1, rx, .nil, fun d v m' H' W' st3 S3 r q => kq d m' v H' W' ((Step.trans S1 st1 st3).weak (by omega)) S3 r q⟩
    subst h1
    cases f
    · exact u0 rfl PySem.F.slot_list_pop PySem.F.type_list_pop mt_pop_ok
    · exact u1 (by intro z; cases z) (by intro z; cases z) (by intro z; cases z) PySem.F.slot_list_pop PySem.F.type_list_pop mt_popAt_ok
    · exact u1 (by intro z; cases z) (by intro z; cases z) (by intro z; cases z) PySem.F.slot_list_insert PySem.F.type_list_insert mt_insert_ok
    · exact u1 (by intro z; cases z) (by intro z; cases z) (by intro z; cases z) PySem.F.slot_list_extend PySem.F.type_list_extend mt_extend_ok
    · exact u0 rfl PySem.F.slot_list_reverse PySem.F.type_list_reverse mt_reverse_ok
    · exact u0 rfl PySem.F.slot_list_clear PySem.F.type_list_clear mt_clear_ok
    · exact u1 (by intro z; cases z) (by intro z; cases z) (by intro z; cases z) PySem.F.slot_list_index PySem.F.type_list_index (mt_index_ok h.K hu)
  · cases hm
theorem mEs_nil {es : Es} (h : mEs es C [] = true) : es = .nil := by
  cases es with
  | nil => rfl
  | cons e r => cases h
/-! ### list(range(..)), in over data -/
theorem snd_lrg (h : XOk Z px cm cst Φ gv k C X) {a : E} {la : Lk} (ha : OkP Z X la (fun σ m Q => wpE Φ gv cm a σ m Q (px.at σ)) (cE cst a)) : OkP Z X (mLrg C la) (fun σ m Q => wpE Φ gv cm (.lrg a) σ m Q (px.at σ)) (cE cst a) := by
  intro pe hm
  rcases bool_cases cm with hcm | hcm
  case inr =>
    refine ⟨fun pins s σ H QV I q => ?_⟩
    obtain ⟨W, m, σ, Q, hw, S, L, hn, kq⟩ := q
    have := hw.1
    rw [hcm] at this
    cases this
  unfold mLrg at hm
  split at hm
  · rename_i x xp y yp p ypos pos
    simp only [Bool.and_eq_true, decide_eq_true_eq] at hm
    obtain ⟨⟨⟨⟨⟨h1, h2⟩, h3⟩, h4⟩, h5⟩, h6⟩ := hm
    subst h1
    subst h3
    obtain ⟨g1, g2, g3⟩ := bl_of h h2
    obtain ⟨r1, r2, r3⟩ := bl_of h h4
    refine PE.of (pe_listRg (h.calm hcm) g1 g3 (prg_1 r1 r3 (ha _ h6) (star1 h5)) rfl) ?_
    intro s H QV q
    obtain ⟨W, m, σ, Q, hw, S, L, hn, kq⟩ := q
    refine ⟨W, m, σ, _, hw.2, S, L, hn, fun dx m1 vx H1 W1 st1 S1 rx q1 => ?_⟩
    split at q1
    · rename_i n
      cases rx
      obtain ⟨⟨b1, b2⟩, q1⟩ := q1
      have b2' : n ≤ 16777216 := b2
      refine ⟨n, rfl, RgOk.of_le (by omega) b2' (by omega) (by omega), fun p hp => ?_⟩
      have rl : ∀ l : List Nat, RepL G W1 (l.map fun i => V.int (0 + (i : Nat))) (l.map fun i => D.int (i : Nat)) := by
        intro l
        induction l with
        | nil => exact .nil
        | cons i l ih =>
          rw [List.map_cons, List.map_cons, Int.zero_add]
          exact .cons (.int _) ih
      have e : rgV 0 n = (List.range n.toNat).map fun i => V.int (0 + (i : Nat)) := by unfold rgV; rw [Int.sub_zero]
      rw [e]
      have rr := rl (List.range n.toNat)
      have hl : ((List.range n.toNat).map fun i => V.int (0 + (i : Nat))).length ≤ sizeLine := by
        rw [List.length_map, List.length_range, ← line_eq]
        show _ ≤ 16777216
        omega
      have S' := S1.new (o := .lst ((List.range n.toNat).map fun i => V.int (0 + (i : Nat)))) hp hl
      refine kq _ _ _ _ _ ((Step.trans S1 st1 (Step.new S1 hp (c := 0))).weak (by omega)) S' (.lst upd_same (rr.mono (le_new (S1.none hp).1))) q1
    · exact q1.elim
  · cases hm
theorem inD_imp {neg : Bool} {a b : E} {s : List (Option V)} {H : Hp} {QV : VK} {w : Wp} {hK : X.K = G.K} (hw : ∀ σ m Q, w σ m Q → wpE Φ gv cm (.inD neg a b) σ m Q (px.at σ)) (q : tE Z w (cE cst a + cE cst b) s H QV) :
    tOp (fun x y H Q => ∃ d ds, Dp X.K H x d ∧ Dp X.K H y (.list ds) ∧ SeqAt.shaped d = true ∧ SeqAt.shaped (.list ds) = true ∧ Q (.bl (if neg = true then !(ds.any fun z => PyData.eqv z d) else ds.any fun z => PyData.eqv z d)) H) (tE Z (fun σ m Q => wpE Φ gv cm a σ m Q (px.at σ)) (cE cst a)) (tE Z (fun σ m Q => wpE Φ gv cm b σ m Q (px.at σ)) (cE cst b)) s H QV := by
  obtain ⟨W, m, σ, Q, hw1, S, L, hn, kq⟩ := q
  refine ⟨W, m, σ, _, hw _ _ _ hw1, S, L, by omega, fun dx m1 vx H1 W1 st1 S1 rx q1 => ?_⟩
  have n1 := st1.n
  refine ⟨W1, m1, σ, _, q1, S1, L.mono st1.le, by omega, fun dy m2 vy H2 W2 st2 S2 ry q2 => ?_⟩
  obtain ⟨ds, e1, ⟨f1, f2⟩, q2⟩ := q2
  have rx' := Rep.mono st2.le _ rx
  have fl : flatD (39 + 1) (rd m2 dy) = true := by rw [e1]; exact f2
  have dpy : Dp X.K H2 vy (pyD (rd m2 dy)) := dp_rd hK S2 ry fl
  rw [e1, pyDL_map] at dpy
  have sh : SeqAt.shaped (.list (ds.map pyD)) = true := by
    have := shaped_of fl
    rw [e1, pyDL_map] at this
    exact this
  refine ⟨_, _, dp_rd (n := 38) hK S2 rx' f1, dpy, shaped_of (flat_up f1), sh, ?_⟩
  have e : ((ds.map pyD).any fun z => PyData.eqv z (pyD (rd m2 dx))) = memD (rd m2 dx) ds := by
    unfold memD
    rw [List.any_map]
    have key : ∀ l : List D, (∀ d ∈ l, d ∈ ds) → l.any ((fun z => PyData.eqv z (pyD (rd m2 dx))) ∘ pyD) = l.any fun y => eqD y (rd m2 dx) := by
      intro l
      induction l with
      | nil => intro _; rfl
      | cons d l ih =>
        intro hm
        rw [List.any_cons, List.any_cons, ih fun x hx => hm x (List.mem_cons_of_mem _ hx)]
        show (PyData.eqv (pyD d) _ || _) = _
        rw [eqv_of 39 _ _ (flatL_mem f2 (hm d (List.mem_cons_self ..))) f1]
    exact key ds fun _ h => h
  rw [e]
  exact kq _ m2 _ H2 W2 (Step.trans S1 st1 st2) S2 (.bl _) q2
theorem snd_inD (h : XOk Z px cm cst Φ gv k C X) (neg : Bool) {a b : E} {la lb : Lk} (ha : OkP Z X la (fun σ m Q => wpE Φ gv cm a σ m Q (px.at σ)) (cE cst a)) (hb : OkP Z X lb (fun σ m Q => wpE Φ gv cm b σ m Q (px.at σ)) (cE cst b)) :
    OkP Z X (mInD neg la lb) (fun σ m Q => wpE Φ gv cm (.inD neg a b) σ m Q (px.at σ)) (cE cst a + cE cst b) := by
  intro pe hl
  have hu : X.A.units + 65 < cLine := by have := h.rooH.un; omega
  unfold mInD at hl
  split at hl
  · simp only [Bool.and_eq_true, decide_eq_true_eq] at hl
    obtain ⟨⟨⟨h1, h2⟩, h3⟩, h4⟩ := hl
    subst h1
    cases neg with
    | false => exact PE.of (pe_cmpR (op_inD hu) (ha _ h3) (hb _ h4) (nomark_of h2)) fun s H QV q => inD_imp (hK := h.K) (fun _ _ _ q => q) q
    | true => exact PE.of (pe_cmpR (op_notInD hu) (ha _ h3) (hb _ h4) (nomark_of h2)) fun s H QV q => inD_imp (hK := h.K) (fun _ _ _ q => q) q
  · cases hl
theorem snt_inD (h : XOk Z px cm cst Φ gv k C X) (neg : Bool) {a b : E} {la lb : Lk} (ha : OkP Z X la (fun σ m Q => wpE Φ gv cm a σ m Q (px.at σ)) (cE cst a)) (hb : OkP Z X lb (fun σ m Q => wpE Φ gv cm b σ m Q (px.at σ)) (cE cst b)) :
    OkT Z X (mInD neg la lb) (fun σ m Q => wpT Φ gv cm (.inD neg a b) σ m Q (px.at σ)) (cE cst a + cE cst b) := by
  intro pe hl
  have hu : X.A.units + 65 < cLine := by have := h.rooH.un; omega
  have key : ∀ (s : List (Option V)) (H : Hp) (QV : Bool → Hp → Prop), tT Z (fun σ m Q => wpT Φ gv cm (.inD neg a b) σ m Q (px.at σ)) (cE cst a + cE cst b) s H QV → tE Z (fun σ m Q => wpT Φ gv cm (.inD neg a b) σ m (fun k m => Q (.bl k) m) (px.at σ)) (cE cst a + cE cst b) s H (fun v H => ∃ k, v = .bl k ∧ QV k H) := by
    intro s H QV q
    obtain ⟨W, m, σ, Q, hw, S, L, hn, kq⟩ := q
    refine ⟨W, m, σ, (fun d m => ∃ k, d = .bl k ∧ Q k m), ?_, S, L, hn, fun d m' v H' W' st S' r ⟨k, e, q⟩ => ?_⟩
    · have e : ∀ k m, Q k m → ∃ k', D.bl k = .bl k' ∧ Q k' m := fun k m q => ⟨k, rfl, q⟩
      simpa using hw
    · subst e
      cases r
      exact ⟨k, rfl, kq k m' H' W' st S' q⟩
  unfold mInD at hl
  split at hl
  · simp only [Bool.and_eq_true, decide_eq_true_eq] at hl
    obtain ⟨⟨⟨h1, h2⟩, h3⟩, h4⟩ := hl
    subst h1
    cases neg with
    | false => exact PT.of (pt_cmpR (op_inD hu) (ha _ h3) (hb _ h4) (nomark_of h2)) fun s H QV q => inD_imp (hK := h.K) (w := fun σ m Q => wpT Φ gv cm (.inD false a b) σ m (fun k m => Q (.bl k) m) (px.at σ)) (fun _ _ _ q => q) (key s H QV q)
    | true => exact PT.of (pt_cmpR (op_notInD hu) (ha _ h3) (hb _ h4) (nomark_of h2)) fun s H QV q => inD_imp (hK := h.K) (w := fun σ m Q => wpT Φ gv cm (.inD true a b) σ m (fun k m => Q (.bl k) m) (px.at σ)) (fun _ _ _ q => q) (key s H QV q)
  · cases hl
end
end Pk

/-! a.count(True) of a list of bools. -/
namespace Pk
open PySem L2 PySem.Spec PyProof.Rows
theorem ty_count : typeOf (.builtin "list.count") = pure (.type "method_descriptor") := by show builtinType _ = _; rw [builtinType_eq_fast]; kernel_rfl
def rCntB (K : PySem.W.Frag) : V → List V → Hp → VK → Prop := fun x xs H Q => ∃ (p : Addr) (bs : List Bool), x = .ref p ∧ xs = [.bl true] ∧ SqL K H p (bs.map V.bl) ∧ Q (.int (bs.count true : Nat)) H
theorem bools_of_vals : ∀ {bs : List Bool} {us : List Value}, Vals (bs.map V.bl) us → us = bs.map Value.bool
  | [], us, r => by
    rw [List.map_nil] at r
    cases r
    rfl
  | n :: ns, us, r => by
    rw [List.map_cons] at r
    cases r with
    | cons r1 r2 =>
      rw [bools_of_vals r2]
      cases r1
      rfl
def eqT (v : Value) : Bool := match v with
  | .bool b => b == true
  | _ => false
theorem eqT_count : ∀ bs : List Bool, (bs.map Value.bool).countP eqT = bs.count true
  | [] => rfl
  | b :: bs => by
    rw [List.map_cons, List.countP_cons, List.count_cons, eqT_count bs] <;> rfl
section
variable {X : Cx}
theorem mt_cntB : MtR X "list.count" (rCntB X.K) := by
  intro pins s σ H x xs v us Q I rx rxs h
  obtain ⟨p, bs, rfl, rfl, hs, q⟩ := h
  cases rx
  obtain ⟨u, rfl, ru⟩ := rxs.one
  cases ru
  obtain ⟨its, rv, ⟨⟨cls, dd, data, sl⟩, n, ho, hc, hdn, hd⟩, hlen⟩ := I.list hs
  simp only at hc hd
  subst hc hd
  have hi := bools_of_vals rv
  refine call_meets PySem.F.slot_list_count ⟨_, ho, rfl⟩ PySem.F.entry_list_count (PySem.F.args_list_count_2 _ _)
    (PySem.SeqAt.list_countAt p its.toArray n dd sl (.bool true) eqT) ⟨ho, fun y hy => ?_, ?_⟩
  · have hy : y ∈ its := by simpa using hy
    rw [hi] at hy
    obtain ⟨b, _, rfl⟩ := List.mem_map.mp hy
    exact PySem.SeqAt.EqAt.bool_bool b true
  · have ec : its.toArray.toList.countP eqT = bs.count true := by
      rw [show its.toArray.toList = its from rfl, hi, eqT_count]
    refine ⟨.int (bs.count true : Nat), H, I.tok _, ⟨s.toks, ?_⟩, q⟩
    show Value.int ((its.toArray.toList.countP eqT : Nat) : Int) s.toks = Value.int ((bs.count true : Nat) : Int) s.toks
    rw [ec]
end
section
variable {G : Gs} {Z : Zs G} {px : PxE} {cm : Bool} {cst : Nat → Nat} {Φ : Fs} {gv : Nat → D} {k : Nat} {C : Ct} {X : Cx}
theorem snd_cntT (h : XOk Z px cm cst Φ gv k C X) {a : E} {la : Lk} (ha : OkP Z X la (fun σ m Q => wpE Φ gv cm a σ m Q (px.at σ)) (cE cst a)) : OkP Z X (mCntT la) (fun σ m Q => wpE Φ gv cm (.cntT a) σ m Q (px.at σ)) (cE cst a) := by
  intro pe hm
  unfold mCntT at hm
  split at hm
  · simp only [Bool.and_eq_true, decide_eq_true_eq] at hm
    obtain ⟨⟨⟨h1, h2⟩, h3⟩, h4⟩ := hm
    subst h1
    refine PE.of (pe_bm PySem.F.plainAttrs_list PySem.F.slot_list_count ty_count mt_cntB (ha _ h4) (pa_cons pe_bl pa_nil rfl) (attr_of h3 _ _) rfl (beq_iff_eq.mpr h2) rfl rfl) ?_
    intro s H QV q
    obtain ⟨W, m, σ, Q, hw, S, L, hn, kq⟩ := q
    refine ⟨W, m, σ, _, hw, S, L, hn, fun dx m1 vx H1 W1 st1 S1 rx q1 => ?_⟩
    obtain ⟨ds, bs, e1, e2, q2⟩ := q1
    obtain ⟨p, xs, rfl, h5, h6⟩ := rd_lst S1 rx e1
    have e3 := bls_rep h6 e2
    subst e3
    exact ⟨.inl ⟨rfl, _, .of h5⟩, p, bs, rfl, rfl, .of h5, kq _ m1 _ H1 W1 st1 S1 (.int _) q2⟩
  · cases hm
end
end Pk

/-! The form sorted(set(..)), len(set(..)). -/
namespace Pk
open PySem L2
section
variable {G : Gs} {Z : Zs G} {px : PxE} {cm : Bool} {cst : Nat → Nat} {Φ : Fs} {gv : Nat → D} {k : Nat} {C : Ct} {X : Cx}
theorem int_reps {W : Kn} : ∀ is : List Int, RepL G W (is.map V.int) (is.map D.int)
  | [] => .nil
  | i :: r => .cons (.int i) (int_reps r)
theorem str_reps {W : Kn} : ∀ ss : List (List Nat), RepL G W ((ss.map mkS).map V.str) (ss.map D.str)
  | [] => .nil
  | i :: r => .cons (.str i) (str_reps r)
theorem snd_sset (h : XOk Z px cm cst Φ gv k C X) (f : Bool) {e : E} {le : Lk} (he : OkP Z X le (fun σ m Q => wpE Φ gv cm e σ m Q (px.at σ)) (cE cst e)) :
    OkP Z X (mSset C f le) (fun σ m Q => wpE Φ gv cm (.sset f e) σ m Q (px.at σ)) (cE cst e) := by
  intro pe hl
  unfold mSset at hl
  split at hl
  · rename_i x p1 y p2 pa p3 p4
    simp only [Bool.and_eq_true, decide_eq_true_eq] at hl
    obtain ⟨⟨⟨⟨⟨h1, h2⟩, h3⟩, h4⟩, h5⟩, h6⟩ := hl
    subst h2
    obtain ⟨g1, _, g3⟩ := bl_of h h3
    obtain ⟨k1, _, k3⟩ := bl_of h h4
    rcases (bool_cases cm).symm with hc | hc
    · refine ⟨fun pins s σ H QV I q => ?_⟩
      obtain ⟨W, m, σ, Q, hw, S, L, hn, kq⟩ := q
      have := hw.1
      rw [hc] at this
      cases this
    · refine PE.of (pe_sset h1 (h.calm hc) h.units g1 g3 k1 k3 (he _ h6) (star1 h5)) ?_
      intro s H QV q
      obtain ⟨W, m, σ, Q, hw, S, L, hn, kq⟩ := q
      refine ⟨W, m, σ, _, hw.2, S, L, hn, fun d m1 v H1 W1 st1 S1 r q1 => ?_⟩
      unfold ssR at q1
      split at q1
      · rename_i ds e1
        obtain ⟨a, xs, rfl, ha, rx⟩ := rd_lst S1 r e1
        have hlen : xs.length = ds.length := rx.length
        have tail : ∀ (ws : List V) (es : List D), (∀ W', RepL G W' ws es) → Q (if f = true then .lst es else .int (es.length : Nat)) m1 → if f = true then ∀ p, H1 p = none → ws.length ≤ sizeLine → QV (.ref p) (upd H1 p (.lst ws)) else QV (.int (ws.length : Nat)) H1 := by
          intro ws es hr hq
          cases f with
          | false =>
            rw [if_neg (by decide)] at hq ⊢
            have el : ws.length = es.length := (hr W1).length
            rw [el]
            exact kq _ m1 _ H1 W1 st1 S1 (.int _) hq
          | true =>
            rw [if_pos rfl] at hq ⊢
            intro p hp hL
            have S' := S1.new (o := .lst ws) hp hL
            exact kq _ m1 _ _ _ ((Step.trans S1 st1 (Step.new S1 hp)).weak (Nat.le_of_eq (Nat.add_zero _))) S' (.lst (xs := ws) upd_same (hr _)) hq
        refine ⟨a, xs, fun ws => ∃ es, (∀ W', RepL G W' ws es) ∧ Q (if f = true then .lst es else .int (es.length : Nat)) m1, rfl, .of ha, by rw [hlen]; exact q1.1, ?_, fun ws ⟨es, hr, hq⟩ => tail ws es hr hq⟩
        rcases q1.2 with ⟨is, e2, q2⟩ | ⟨ss, e2, q2⟩
        · refine .inl ⟨is, ints_rep rx e2, fun out o1 o2 => ⟨out.map D.int, fun W' => int_reps out, ?_⟩⟩
          have := q2 out o1 o2
          rw [List.length_map]
          exact this
        · refine .inr ⟨ss, strs_rep rx e2, fun out o1 o2 => ⟨out.map D.str, fun W' => str_reps out, ?_⟩⟩
          have := q2 out o1 o2
          rw [List.length_map]
          exact this
      · exact q1.elim
  · cases hl
end
end Pk

/-! Set comprehensions, with one for, of keys of any kind that is carried by value. -/
namespace Pk
open PySem PySem.Spec PyProof.Rows L2 PpSet
section
variable {K : Type} [DecidableEq K] {P : Program} {w : World}
/-- a set that grows: what it has -/
def KSet (ν : Kd P w K) (a : Addr) (ks : List K) : HO := .ext fun h => ν.At h a ks
theorem kset_ok {ν : Kd P w K} {H : Hp} {h : Heap} {a : Addr} {ks : List K} (r : ν.At h a ks) : ObjOk P w H h a (KSet ν a ks) := by
  have ⟨o, _, _, _, ho, _⟩ := r
  exact ⟨r, ⟨o, ho⟩, fun _ _ p k => Kd.At.keep p k⟩
end
section
variable {X : Cx} {K : Type} [DecidableEq K] {ν : Kd X.prog X.w K}
theorem kset_at {pins : List (Addr × Obj)} {σ : L2.St} {H : Hp} {s : Shared} {a : Addr} {ks : List K} (I : Inv X pins σ H s) (h : H a = some (KSet ν a ks)) : ν.At s.heap a ks := (I.hok a _ h).1
def plusK (k : K) (ks : List K) : List K := if k ∈ ks then ks else k :: ks
theorem kset_add {X' : Cx} (hp : X'.prog = X.prog) (hw : X'.w = X.w) {pins : List (Addr × Obj)} {σ : L2.St} {H : Hp} {s : Shared} {E : Value → Shared → Prop} {D : Addr} {ks : List K} {k : K} {t : Tok} {Q : Value → Shared → Prop} (I : Inv X' pins σ H s) (hD : H D = some (KSet ν D ks)) (room : ks.length + 1 < scanBound)
    (h : ∀ s', Inv X' pins σ (upd H D (KSet ν D (plusK k ks))) s' → Q .none s') : wpAny (model X.prog X.w) X'.A (call (.builtin "set.add") [.ref D, ν.wr k t]) Q E s := by
  have R : ν.At s.heap D ks := (I.hok D _ hD).1
  have hT : s.TypeIs (.ref D) "set" := by
    obtain ⟨o, _, _, _, ho, hx, _⟩ := R
    exact ⟨o, ho, hx.1⟩
  refine wpAny_call_entry F.slot_set_add hT F.entry_set_add ?_ (F.args_set_add_2 _ _)
  unfold Builtin.«set.add» Builtin.Frozenset.oneOther
  simp only [List.isEmpty_nil, bind_assoc]
  unfold Builtin.Frozenset.addrOf setAdd
  refine wpAny_bind (wpAny_pure ?_)
  try dsimp only
  refine wpAny_bind (wpAny_pure ?_)
  try dsimp only
  refine wpAny_bind (wpAny_holding (wpAny_bind (ν.knd.pyHash (ν.isk k t) ?_)))
  refine Kd.add (s := { s with toks := s.toks + 1 }) R room fun h' b sb r => ?_
  show wpAny _ _ (ret Value.none) _ _ _
  refine wpAny_pure ⟨_, rfl, h _ ?_⟩
  have he : ∃ u, h'.get? D = some u := by
    have ⟨o, _, _, _, ho, _⟩ := r
    exact ⟨o, ho⟩
  refine I.write (e := D) (t' := s.toks + 1) (by rw [hD]; trivial) (.inl rfl) (fun b u hb hu => (sb.2 b hb).trans hu) he ?_
  rw [hp, hw]
  exact kset_ok r
/-- {elt for tg in iter if ..}: D the new set, g how its keys are written -/
def tScV (ν : Kd X.prog X.w K) (g : K → V) (wi : TI) (tp : TG) (tt : TT) (te : TE) (vs : List Nat) : TE := fun σ H Q => wi σ H fun J H1 => ∀ D, H1 D = none → ∃ Wi : Nat → Nat → Hp → Prop, (∃ n, Wi 0 n (upd H1 D (KSet ν D []))) ∧ ∀ i n H, Wi i n H →
  (J.stop i H ∧ Q (.ref D) H) ∨ (J.go i H ∧ ∃ Nx : Hp → Prop, (∀ H', Nx H' → ∃ n', n' < n ∧ Wi (i + 1) n' H') ∧ ∀ x H', J.yld i H x H' → tp x (L2.wipe σ vs) H' fun σ2 H2 => L2.wipe σ2 vs = L2.wipe σ vs ∧ tt σ2 H2 fun b H3 =>
    if b = true then te σ2 H3 fun y H4 => ∃ k ks, y = g k ∧ H4 D = some (KSet ν D ks) ∧ ks.length + 1 < scanBound ∧ Nx (upd H4 D (KSet ν D (plusK k ks))) else Nx H3)
/-- the new set, as it lies -/
abbrev set0 (w : World) : Obj := { cls := .type "set", dict := none, data := .set #[] 0 (.fresh 0 0 (!w.params.followText "set-order")) }
theorem sc_block {g : K → V} (hg2 : ∀ k v, RelV (g k) v → ∃ t, v = ν.wr k t) {elt tg iter : Expr} {ifs : List Expr} {scope : Scope} {own : List (Str × Nat)} {pos : Pos} {tp : TG} {tt : TT} {te : TE} (hc : X.calm = true) (hN : X.N.Nodup) (ok : BlkOk X.N X.env.scope scope own)
    (hg : ∀ (s : Shared) (H : Hp) (C : Addr) (cl : List (Str × Addr)) (fp : List Addr), PG (X.blk s H scope (compEnvC scope cl C X.env) fp) tg tp) (ht : ∀ (s : Shared) (H : Hp) (C : Addr) (cl : List (Str × Addr)) (fp : List Addr), PTs (X.blk s H scope (compEnvC scope cl C X.env) fp) ifs tt)
    (he : ∀ (s : Shared) (H : Hp) (C : Addr) (cl : List (Str × Addr)) (fp : List Addr), PE (X.blk s H scope (compEnvC scope cl C X.env) fp) elt te)
    {pins : List (Addr × Obj)} {σ : L2.St} {s3 : Shared} {H3 : Hp} {it D : Addr} {fp : List Addr} {tn : Nat → Heap → Prop} {J : L2.It} {Q : VK} (I3 : Inv X pins σ H3 s3) (T : Turn X.prog X.w X.K tg J fp it tn) (t3 : tn 0 s3.heap) (f3 : ∀ b ∈ fp, FpOk X pins H3 b ∧ b < s3.heap.objs.size)
    {Wi : Nat → Nat → Hp → Prop} {n0 : Nat} (w0 : Wi 0 n0 H3) (turn : ∀ i n H, Wi i n H → (J.stop i H ∧ Q (.ref D) H) ∨ (J.go i H ∧ ∃ Nx : Hp → Prop, (∀ H', Nx H' → ∃ n', n' < n ∧ Wi (i + 1) n' H') ∧ ∀ x H', J.yld i H x H' → tp x (L2.wipe σ (own.map (·.2))) H' fun σ2 H2 => L2.wipe σ2 (own.map (·.2)) = L2.wipe σ (own.map (·.2)) ∧ tt σ2 H2 fun b H3 =>
      if b = true then te σ2 H3 fun y H4 => ∃ k ks, y = g k ∧ H4 D = some (KSet ν D ks) ∧ ks.length + 1 < scanBound ∧ Nx (upd H4 D (KSet ν D (plusK k ks))) else Nx H3)) :
    codeAny (model X.prog X.w) X.A (.compStart (.SetComp elt [⟨tg, iter, ifs, 0⟩] scope pos) 0 (.ref it) (.ref D) (compEnvC scope (cellsFrom (s3.heap.objs.size + 1) scope.names (cloFrom X.env.cells scope.names [])) s3.heap.objs.size X.env))
      (compPost (model X.prog X.w) X.A X.xe none (EP X pins σ Q) (.ref D) s3.heap.objs.size) { s3 with heap := pushCells (s3.heap.push { cls := .type "dict", data := .dict #[] }) scope.names } := by
  have I4 := block_start I3 ok hN f3
  have pg := hg s3 H3 s3.heap.objs.size (cellsFrom (s3.heap.objs.size + 1) scope.names (cloFrom X.env.cells scope.names [])) fp
  have pt := ht s3 H3 s3.heap.objs.size (cellsFrom (s3.heap.objs.size + 1) scope.names (cloFrom X.env.cells scope.names [])) fp
  have pe := he s3 H3 s3.heap.objs.size (cellsFrom (s3.heap.objs.size + 1) scope.names (cloFrom X.env.cells scope.names [])) fp
  have t4 : tn 0 (pushCells (s3.heap.push { cls := .type "dict", data := .dict #[] }) scope.names) := T.keep _ _ _ t3 fun b _ o e => pushCells_keeps _ _ _ _ (Heap.get?_push_of_some _ e)
  obtain ⟨ce, hce⟩ : ∃ ce, ce = compEnvC scope (cellsFrom (s3.heap.objs.size + 1) scope.names (cloFrom X.env.cells scope.names [])) s3.heap.objs.size X.env := ⟨_, rfl⟩
  have cL : ce.locals = s3.heap.objs.size := by rw [hce]; rfl
  rw [← hce] at I4 pg pt pe ⊢
  obtain ⟨s4, e4⟩ : ∃ s4 : Shared, s4 = { s3 with heap := pushCells (s3.heap.push { cls := .type "dict", data := .dict #[] }) scope.names } := ⟨_, rfl⟩
  have t5 : tn 0 s4.heap := by rw [e4]; exact t4
  rw [← e4] at I4 ⊢
  clear t4
  -- an iterator's own objects, within the block
  have own_ : ∀ {σ' : L2.St} {H' : Hp} {s' : Shared}, Inv (X.blk s3 H3 scope ce fp) [] σ' H' s' → (∀ b ∈ fp, H' b = none) → ∀ b ∈ fp, FpOk (X.blk s3 H3 scope ce fp) [] H' b := fun {σ' H' s'} I' none_ b hb =>
    ⟨none_ b hb, (I'.ok.exf b hb).1, I'.ok.exfs b hb, .inl hb, fun x c e => (I'.ok.exf b hb).2 x c e, fun p hp => absurd hp (by show p ∉ ([] : List (Addr × Obj)) ++ []; simp)⟩
  have all : codeAny (model X.prog X.w) X.A (.compLoop (.SetComp elt [⟨tg, iter, ifs, 0⟩] scope pos) 0 (.ref it) (.ref D) ce) (compPost (model X.prog X.w) X.A X.xe none (EP X pins σ Q) (.ref D) s3.heap.objs.size) s4 := by
    refine compLoopS_any (fun n s' => ∃ i H', Inv (X.blk s3 H3 scope ce fp) [] (L2.wipe σ (own.map (·.2))) H' s' ∧ tn i s'.heap ∧ (∀ b ∈ fp, H' b = none) ∧ Wi i n H') (fun n s5 ⟨i, H5, I5, u5, z5, w5⟩ => ?_) n0 ⟨0, H3, I4, t5, fun b hb => (f3 b hb).1.1, w0⟩
    rcases turn i n H5 w5 with ⟨stop, qq⟩ | ⟨go, Nx, hNx, step⟩
    · refine thnF (T.done (X.blk s3 H3 scope ce fp) rfl rfl rfl hc i [] s5 _ H5 (fun _ _ => False) I5 (own_ I5 z5) u5 stop) fun r s6 ⟨hr, I6⟩ => ?_
      subst hr
      have I7 : Inv X pins σ H5 s6 := I3.call' (ch := fp) I6.os I6.base I6.hok I6.bare fun b hb => by
        obtain ⟨_, a2, a3, a4, a5, a6⟩ := (f3 b hb).1
        exact ⟨a4, a2, a5, a6⟩
      obtain ⟨m, hm, _⟩ := I6.loc
      have hm : s6.heap.Ns ce.locals m := hm
      have free_ : H5 ce.locals = none := I6.free
      rw [cL] at hm free_
      refine ⟨m, hm, fun h' sb => ?_⟩
      obtain ⟨b0, b1, b2, b3, b4, b5⟩ := I3.fpOk (H' := H5) (pins := pins) (Nat.le_refl _) free_
      exact ⟨.ref D, H5, I7.turned (t' := s6.toks) (fun b o hb e => (sb.2 b hb).trans e) b0 b1 b3 b4 b5, rfl, qq⟩
    · refine thnF (T.item (X.blk s3 H3 scope ce fp) rfl rfl rfl hc i [] s5 _ H5 (fun _ _ => False) I5 (own_ I5 z5) u5 go) fun r s6 ⟨u, hr, h6⟩ => ?_
      subst hr
      refine thnF h6 fun _ s7 ⟨x, H7, I7, r7, y7, u7, z7⟩ => ?_
      refine thnF (pg.run _ s7 _ H7 x u _ (I7.pinned (own_ I7 z7) (T.obj _ _ u7)) r7 (step x H7 y7)) fun _ s8 ⟨σ8, H8, I8, hw8, q8⟩ => ?_
      refine thnF (pt.run _ s8 σ8 H8 _ I8 q8) fun b s9 ⟨H9, I9, q9⟩ => ?_
      have next : ∀ {s' : Shared} {H' : Hp}, Inv (X.blk s3 H3 scope ce fp) ([] ++ pinsAt fp s7.heap) σ8 H' s' → Nx H' → ∃ m, m < n ∧ ∃ i H', Inv (X.blk s3 H3 scope ce fp) [] (L2.wipe σ (own.map (·.2))) H' s' ∧ tn i s'.heap ∧ (∀ b ∈ fp, H' b = none) ∧ Wi i m H' := fun {s' H'} I' nx => by
        obtain ⟨m', lt, w'⟩ := hNx H' nx
        have kept_ : ∀ b ∈ fp, ∀ o, s7.heap.get? b = some o → s'.heap.get? b = some o ∧ H' b = none := fun b hb o e => by
          have := I'.pin (b, o) (List.mem_append_right _ (List.mem_append_right _ (mem_pinsAt hb e)))
          exact ⟨this.1, this.2.1⟩
        refine ⟨m', lt, i + 1, H', (I'.unpinned (pins := [])).weak (by rw [← hw8, wipe_length]) (fun j v e => (wipe_some (hw8 ▸ e)).1), T.keep _ _ _ u7 fun b hb o e => (kept_ b hb o e).1, fun b hb => ?_, w'⟩
        obtain ⟨o, e, _⟩ := T.obj _ _ u7 b hb
        exact (kept_ b hb o e).2
      cases b with
      | false =>
        rw [if_neg Bool.false_ne_true] at q9
        rw [if_neg Bool.false_ne_true]
        exact next I9 q9
      | true =>
        rw [if_pos rfl] at q9
        rw [if_pos rfl]
        refine thnF (pe.run _ s9 σ8 H9 _ I9 q9) fun z s10 ⟨yv, H10, I10, r10, k, ks, ey, hD10, room, nx⟩ => ?_
        subst ey
        obtain ⟨t, rfl⟩ := hg2 _ _ r10
        exact kset_add (X' := X.blk s3 H3 scope ce fp) rfl rfl I10 hD10 room fun s11 I11 => next I11 nx
  exact codeAny_compStart_set all (T.self X.A 0 _ _ _ t5 all)
theorem pe_scV {g : K → V} (hg2 : ∀ k v, RelV (g k) v → ∃ t, v = ν.wr k t) {elt tg iter : Expr} {ifs : List Expr} {scope : Scope} {own : List (Str × Nat)} {pos : Pos} {wi : TI} {tp : TG} {tt : TT} {te : TE} (hc : X.calm = true) (hN : X.N.Nodup) (hi : PI X tg iter wi) (ok : BlkOk X.N X.env.scope scope own)
    (hg : ∀ (s : Shared) (H : Hp) (C : Addr) (cl : List (Str × Addr)) (fp : List Addr), PG (X.blk s H scope (compEnvC scope cl C X.env) fp) tg tp) (ht : ∀ (s : Shared) (H : Hp) (C : Addr) (cl : List (Str × Addr)) (fp : List Addr), PTs (X.blk s H scope (compEnvC scope cl C X.env) fp) ifs tt)
    (he : ∀ (s : Shared) (H : Hp) (C : Addr) (cl : List (Str × Addr)) (fp : List Addr), PE (X.blk s H scope (compEnvC scope cl C X.env) fp) elt te) (hs : ∀ x, foldedSetIterable iter X.env x = pure x) :
    PE X (.SetComp elt [⟨tg, iter, ifs, 0⟩] scope pos) (tScV ν g wi tp tt te (own.map (·.2))) := by
  refine ⟨fun pins s σ H Q I h => ?_⟩
  rw [eval_SetComp]
  have cells : ∀ y ∈ scope.names, y.2 = .free → ∃ c, X.env.cells.lookup y.1 = some c := fun y hy e => (ok.free y hy e).elim (fun k => I.ok.has _ (.inl k)) fun k => I.ok.has _ (.inr k)
  refine wpAny_comprehension_free (use := none) rfl hs (closure_ok cells) ok.kind (fun y hy e => by rw [ok.uniq y hy, e]) (thn (hi.run pins s σ H _ I h) fun xv s1 hx => thn hx fun itv s2 ⟨it, fp, tn, J, H2, e, I2, T, st2, f2, q⟩ => ?_)
  subst e
  refine newSet_ok (newEnv_comp ?_)
  obtain ⟨D, eD⟩ : ∃ D, D = s2.heap.objs.size := ⟨_, rfl⟩
  have freeD : H2 D = none := I2.hok.fresh (Nat.le_of_eq eD.symm)
  obtain ⟨Wi, ⟨n0, w0⟩, turn⟩ := q D freeD
  have atNew : ν.At (s2.heap.push (set0 X.w)) D [] := by rw [eD]; exact Kd.fresh (Heap.get?_push_size _ rfl)
  obtain ⟨s3, e3⟩ : ∃ s3 : Shared, s3 = { s2 with heap := s2.heap.push (set0 X.w) } := ⟨_, rfl⟩
  have old3 : ∀ b o, s2.heap.get? b = some o → s3.heap.get? b = some o := fun b o z => by rw [e3]; exact Heap.get?_push_of_some _ z
  have I3 : Inv X pins σ (upd H2 D (KSet ν D [])) s3 := by
    rw [e3]
    exact I2.laid (t' := s2.toks) (fun b o z => Heap.get?_push_of_some _ z) (Nat.le_of_eq eD.symm) (kset_ok atNew)
  have tn3 : tn 0 s3.heap := T.keep _ _ _ st2 fun b _ o z => old3 b o z
  have f3 : ∀ b ∈ fp, FpOk X pins (upd H2 D (KSet ν D [])) b ∧ b < s3.heap.objs.size := fun b hb => by
    obtain ⟨o, z, _⟩ := T.obj _ _ st2 b hb
    have lt := Heap.lt_size z
    refine ⟨⟨?_, (f2 b hb).2⟩, by rw [e3]; show b < (s2.heap.push (set0 X.w)).objs.size; rw [Heap.size_push]; exact Nat.lt_succ_of_lt lt⟩
    rw [upd_ne (by rw [eD]; exact Nat.ne_of_lt lt)]
    exact (f2 b hb).1
  subst e3
  subst eD
  exact sc_block hg2 hc hN ok hg ht he I3 T tn3 f3 w0 turn
end
end Pk

/-! Set comprehensions, as data. -/
namespace Pk
open PySem PySem.Spec PyProof.Rows L2
section
variable {G : Gs} {Z : Zs G} {px : PxE} {cm : Bool} {cst : Nat → Nat} {Φ : Fs} {gv : Nat → D} {k : Nat} {C : Ct} {X : Cx}
def notSeq (o : HO) : Prop := (∀ xs, o ≠ .lst xs) ∧ (∀ xs, o ≠ .tup xs) ∧ ∀ p xs, o ≠ .frz p (.tup xs)
theorem SRel0.swap {W : Kn} {m : Mu} {H : Hp} {A : Addr} {o : HO} (S : SRel0 G W m H) (hf : W.F A = .none) (hm : m A = .none) (hd : ¬ drA W A) (ho : notSeq o) : SRel0 G W m (upd H A o) := by
  refine ⟨fun b u q => ?_, fun b u q => ?_, S.dj, fun t ht => ?_, S.drF, S.dri, S.drn, fun b xs q => ?_⟩
  · rw [upd_ne fun z => by rw [z, hf] at q; cases q]
    exact S.fz b u q
  · exact (S.bx b u q).mono (Kn.le.refl W) (upd_ne fun z => by rw [z, hm] at q; cases q)
  · exact (S.dr t ht).same (fun b i => upd_ne fun z => hd ⟨t, ht, z ▸ i⟩) (Nat.le_refl _)
  · by_cases hb : b = A
    · rw [hb, upd_same] at q
      rcases q with q | q | ⟨z, q⟩
      · exact absurd (Option.some.inj q) (ho.1 _)
      · exact absurd (Option.some.inj q) (ho.2.1 _)
      · exact absurd (Option.some.inj q) (ho.2.2 _ _)
    · rw [upd_ne hb] at q
      exact S.bd b xs q
theorem kset_seq {K : Type} [DecidableEq K] {P : Program} {w : World} (ν : Kd P w K) (a : Addr) (ks : List K) : notSeq (KSet ν a ks) :=
  ⟨fun _ e => by (cases e), fun _ e => by (cases e), fun _ _ e => by (cases e)⟩
/-- a set that grows, told by nobody yet -/
structure GrowK {K : Type} [DecidableEq K] {P : Program} {w : World} (G : Gs) (ν : Kd P w K) (A : Addr) (W1 : Kn) (m1 : Mu) (H1 : Hp) (c : Nat) (acc : List K) (W : Kn) (m : Mu) (H : Hp) : Prop where
  ex : ∃ ks, H A = some (KSet ν A ks) ∧ ks.length ≤ acc.length ∧ ∀ x, x ∈ ks ↔ x ∈ acc
  f : W.F A = none
  mm : m A = none
  dr : ¬ drA W A
  S : SRel0 G W m H
  st : Step W1 m1 H1 W m H c
section
variable {K : Type} [DecidableEq K] {P : Program} {w : World} {ν : Kd P w K}
theorem GrowK.step {A : Addr} {W1 W W' : Kn} {m1 m m' : Mu} {H1 H H' : Hp} {c c' : Nat} {acc : List K} (g : GrowK G ν A W1 m1 H1 c acc W m H) (S' : SRel0 G W' m' H') (st : Step W m H W' m' H' c') : GrowK G ν A W1 m1 H1 (c + c') acc W' m' H' := by
  obtain ⟨ks, e1, e2, e3⟩ := g.ex
  obtain ⟨d1, d2, d3⟩ := Step.mk1 S' st e1 g.mm g.dr
  exact ⟨⟨ks, d1, e2, e3⟩, (st.uk A _ e1 g.f g.mm g.dr).1, d2, d3, S', Step.trans0 g.S g.st st⟩
theorem GrowK.weak {A : Addr} {W1 W : Kn} {m1 m : Mu} {H1 H : Hp} {c c' : Nat} {acc : List K} (g : GrowK G ν A W1 m1 H1 c acc W m H) (h : c ≤ c') : GrowK G ν A W1 m1 H1 c' acc W m H := ⟨g.ex, g.f, g.mm, g.dr, g.S, g.st.weak h⟩
theorem GrowK.push {A : Addr} {W1 W : Kn} {m1 m : Mu} {H1 H : Hp} {c : Nat} {acc : List K} (k : K) (g : GrowK G ν A W1 m1 H1 c acc W m H) (hA : H1 A = none) :
    ∃ ks, H A = some (KSet ν A ks) ∧ ks.length ≤ acc.length ∧ GrowK G ν A W1 m1 H1 c (acc ++ [k]) W m (upd H A (KSet ν A (plusK k ks))) := by
  obtain ⟨ks, e1, e2, e3⟩ := g.ex
  have ne : ∀ {b : Addr} {u : HO}, H1 b = some u → b ≠ A := fun {b u} q z => by rw [z, hA] at q; cases q
  refine ⟨ks, e1, e2, ⟨_, upd_same, ?_, fun x => ?_⟩, g.f, g.mm, g.dr, g.S.swap g.f g.mm g.dr (kset_seq ..), ?_⟩
  · unfold plusK
    split <;> simp <;> omega
  · unfold plusK
    rw [List.mem_append, List.mem_singleton, ← e3]
    split
    · rename_i h
      exact ⟨.inl, fun z => z.elim id fun e => e ▸ h⟩
    · rw [List.mem_cons]
      exact Or.comm
  · exact ⟨g.st.le, fun b o q k1 k2 => by rw [upd_ne (ne q)]; exact g.st.kp b o q k1 k2, g.st.uk, g.st.dk, fun b o q => by rw [upd_ne (ne q)]; exact g.st.th b o q, g.st.n⟩
theorem GrowK.new {A : Addr} {W1 : Kn} {m1 : Mu} {H1 : Hp} (S1 : SRel0 G W1 m1 H1) (hA : H1 A = none) : GrowK G ν A W1 m1 H1 0 [] W1 m1 (upd H1 A (KSet ν A [])) := by
  obtain ⟨f1, f2, f3⟩ := S1.none hA
  have ne : ∀ {b : Addr} {u : HO}, H1 b = some u → b ≠ A := fun {b u} q z => by rw [z, hA] at q; cases q
  exact ⟨⟨[], upd_same, Nat.le_refl _, fun _ => Iff.rfl⟩, f1, f2, f3, S1.swap f1 f2 f3 (kset_seq ..), Kn.le.refl _, fun b u q _ _ => by rw [upd_ne (ne q)]; exact q, fun b u q k1 k2 _ => ⟨k1, k2⟩, fun _ _ _ q => q, fun b u q => ⟨u, by rw [upd_ne (ne q)]; exact q⟩, Nat.le_add_right _ _⟩
end
abbrev scBd (Φ : Fs) (gv : Nat → D) (cm ki : Bool) (elt : E) (c : Eo) : Env → Mu → List D → (List D → Mu → Prop) → Prop := fun σ2 m2 acc R => wpTo Φ gv cm c σ2 m2 (fun b m3 =>
  if b = true then wpE Φ gv cm elt σ2 m3 (fun d m4 => kiB ki d = true ∧ acc.length + 1 < 4000 ∧ R (acc ++ [d]) m4) NoX else R acc m3) NoX
theorem sc_turns {K : Type} [DecidableEq K] {P : Program} {w : World} {ν : Kd P w K} {α : Type} {kk : α → K} {dk : α → D} {g : K → V} {ki : Bool} (hrep : ∀ {W : Kn} {v : V} {a : α}, Rep G W v (dk a) → v = g (kk a)) (hki : ∀ d, kiB ki d = true → ∃ a, d = dk a)
    {own : List Nat} {p : Pt} {elt : E} {c : Eo} (hp : ptIn own p = true) {s : List (Option V)} {σ : Env} {Q : List D → Mu → Prop} {QV : VK} {W0 W1 : Kn} {m0 m1 : Mu} {H0 H1 : Hp} {J : L2.It} {items : List D} {gs : List (Nat × List D)} {A : Addr} {c0 : Nat}
    (st1 : Step W0 m0 H0 W1 m1 H1 c0) (S1 : SRel0 G W1 m1 H1) (L : SlotR Z.triv W1 σ s) (wk : WalkD G W1 J items gs) (hlen : items.length ≤ line) (hD : H1 A = none) (hn : W0.n + (c0 + line * (cEo cst c + cE cst elt)) ≤ Z.lim)
    (q : compB gs p (scBd Φ gv cm ki elt c) (wipeE σ own) items m1 [] fun acc m2 => Q acc m2)
    (kq : ∀ (as : List α) m' H' W', GrowK G ν A W1 m1 H1 (line * (cEo cst c + cE cst elt)) (as.map kk) W' m' H' → Q (as.map dk) m' → QV (.ref A) H') :
    ∃ Wi : Nat → Nat → Hp → Prop, (∃ n, Wi 0 n (upd H1 A (KSet ν A []))) ∧ ∀ i n H, Wi i n H →
      (J.stop i H ∧ QV (.ref A) H) ∨ (J.go i H ∧ ∃ Nx : Hp → Prop, (∀ H', Nx H' → ∃ n', n' < n ∧ Wi (i + 1) n' H') ∧ ∀ x H', J.yld i H x H' → tGp Z.triv p x (L2.wipe s own) H' fun σ2 H2 => L2.wipe σ2 own = L2.wipe s own ∧
        tT Z.triv (fun σ m Q => wpTo Φ gv cm c σ m Q (pF.at σ)) (cEo cst c) σ2 H2 fun b H3 => if b = true then tE Z.triv (fun σ m Q => wpE Φ gv cm elt σ m Q (pF.at σ)) (cE cst elt) σ2 H3 fun y H4 =>
          ∃ k ks, y = g k ∧ H4 A = some (KSet ν A ks) ∧ ks.length + 1 < scanBound ∧ Nx (upd H4 A (KSet ν A (plusK k ks))) else Nx H3) := by
  obtain ⟨P, Y, wk, wP, wY⟩ := wk
  generalize hcO : cEo cst c + cE cst elt = cO at hn kq ⊢
  have nn1 := st1.n
  refine lp_it wk (B := fun x H' Nx => tGp Z.triv p x (L2.wipe s own) H' fun σ2 H2 => L2.wipe σ2 own = L2.wipe s own ∧ tT Z.triv (fun σ m Q => wpTo Φ gv cm c σ m Q (pF.at σ)) (cEo cst c) σ2 H2 fun b H3 => if b = true then tE Z.triv (fun σ m Q => wpE Φ gv cm elt σ m Q (pF.at σ)) (cE cst elt) σ2 H3 fun y H4 =>
          ∃ k ks, y = g k ∧ H4 A = some (KSet ν A ks) ∧ ks.length + 1 < scanBound ∧ Nx (upd H4 A (KSet ν A (plusK k ks))) else Nx H3)
    (fun i H => ∃ (W' : Kn) (m' : Mu) (as : List α), GrowK G ν A W1 m1 H1 (i * cO) (as.map kk) W' m' H ∧ compB gs p (scBd Φ gv cm ki elt c) (wipeE σ own) (items.drop i) m' (as.map dk) fun acc m2 => Q acc m2) ?_ ?_ ?_ ?_
  · exact ⟨W1, m1, [], (GrowK.new S1 hD).weak (Nat.zero_le _), by simpa using q⟩
  · rintro i H hi ⟨W', m', as, gr, q'⟩
    exact wP W' m' H gr.st.le gr.S (compB_gd q')
  · rintro i x H H' hi ⟨W', m', as, gr, q'⟩ y
    obtain ⟨d, W'', σ', hb, g2, S'', st'', q'⟩ := walk_turn wY hi gr.st.le gr.S q' y
    have g' := gr.step S'' st''
    have L' : SlotR Z.triv W'' (wipeE σ own) (L2.wipe s own) := ((L.wipe own).mono gr.st.le).mono st''.le
    have n1 := g'.st.n
    have hi2 : i < line := Nat.lt_of_lt_of_le hi hlen
    have hmul : (i + 1) * cO ≤ line * cO := Nat.mul_le_mul_right _ hi2
    rw [Nat.succ_mul] at hmul
    refine ⟨W'', m', _, _, σ', hb, S''.triv, L', g2, fun s2 L2' hw => ?_⟩
    refine ⟨by rw [hw own hp, wipe_wipe], ?_⟩
    refine ⟨W'', m', σ', _, q', S''.triv, L2', (by show _ ≤ Z.lim; omega), fun b m3 H3 W3 st3 Z3 q3 => ?_⟩
    have g3 := g'.step Z3.toSRel0 st3
    cases b with
    | false =>
      rw [if_neg Bool.false_ne_true] at q3
      refine iteF ?_
      exact ⟨W3, m3, as, g3.weak (by rw [Nat.succ_mul]; omega), q3⟩
    | true =>
      rw [if_pos rfl] at q3
      refine iteT ?_
      have n3 := g3.st.n
      refine ⟨W3, m3, σ', _, q3, Z3, L2'.mono st3.le, (by show _ ≤ Z.lim; omega), fun dv m8 v H8 W8 st8 Z8 r8 q8 => ?_⟩
      have g8 := g3.step Z8.toSRel0 st8
      obtain ⟨hk, hroom, q8⟩ := q8
      obtain ⟨a, rfl⟩ := hki dv hk
      obtain ⟨ks, e1, e2, g9⟩ := g8.push (kk a) hD
      refine ⟨kk a, ks, hrep r8, e1, ?_, W8, m8, as ++ [a], ?_, ?_⟩
      · rw [List.length_map] at e2 hroom
        show ks.length + 1 < 4096
        omega
      · rw [List.map_append]
        exact g9.weak (by rw [Nat.succ_mul]; omega)
      · rw [List.map_append]
        exact q8
  · rintro H ⟨W', m', as, gr, q'⟩
    rw [List.drop_length] at q'
    have hmul : items.length * cO ≤ line * cO := Nat.mul_le_mul_right _ hlen
    exact kq as m' H W' (gr.weak hmul) q'.2
/-! ### sorted, counted -/
theorem set_end {K : Type} [DecidableEq K] {ν : Kd X.prog X.w K} {g : K → V} {enc : K → PyData} (hg : ∀ k t, RelV (g k) (ν.wr k t))
    (hr : ∀ h k t, Reads h (ν.wr k t) (enc k) []) (ha : ∀ b b', PySem.W.alike (enc b) (enc b') = true) (hk : ∀ b, enc b ≠ .none ∧ ∀ xs, enc b ≠ .tuple xs) (hd : ∀ b, (enc b).depth = 0)
    {pins : List (Addr × Obj)} {s : Shared} {σ : List (Option V)} {H : Hp} {E : Value → Shared → Prop} {A : Addr} {k0 : List K} {f : Bool} {Q : VK} (hc : X.calm = true) (hu : X.A.units + 64 < cLine) (I : Inv X pins σ H s) (hA : H A = some (KSet ν A k0)) (hn : k0.length < 4000)
    (q : ∀ ks : List K, ks.Nodup → (∀ x, x ∈ ks ↔ x ∈ k0) → if f = true then ∀ p, H p = none → ks.length ≤ sizeLine → Q (.ref p) (upd H p (.lst ((ks.mergeSort (PySem.W.dataLe false enc)).map g))) else Q (.int (ks.length : Nat)) H) :
    wpAny (model X.prog X.w) X.A (call (.builtin (if f = true then "sorted" else "len")) [.ref A]) (EP X pins σ Q) E s := by
  have At : ν.At s.heap A k0 := kset_at I hA
  have hnd : k0.Nodup := by
    obtain ⟨_, _, _, _, _, _, _, T⟩ := At
    exact T.nd
  cases f with
  | false => exact Kd.len (ν := ν) At ⟨.int (k0.length : Nat), H, I.tok _, ⟨_, rfl⟩, q k0 hnd fun _ => Iff.rfl⟩
  | true =>
    refine Kd.sorted (ν := ν) (enc := enc) (I.ok.hd hc) At hr ha hk hd (by omega) fun s' p out c ks' k1 g1 o1 hp hg' pm hsz he => ?_
    have hks' : ks'.length = k0.length := pm.length_eq
    have q := q ks' (pm.nodup_iff.mpr hnd) fun x => pm.mem_iff
    have hpl : H p = none := I.hok.fresh hp
    have hL : ks'.length ≤ sizeLine := by rw [hks', sizeLine_eq]; omega
    have rv : Vals ((ks'.mergeSort (PySem.W.dataLe false enc)).map g) out.toList := vals_each hg he
    have J : Inv X pins σ (upd H p (.lst ((ks'.mergeSort (PySem.W.dataLe false enc)).map g))) { s with heap := s'.heap, gens := s'.gens, drawn := s'.drawn, toks := s'.toks } :=
      Inv.call (ch := []) I (Un.laid k1 hp hpl) (I.hok.laid k1 hp ⟨by rw [List.length_map, List.length_mergeSort]; exact hL, out.toList, c, rv, by rw [hg']⟩) (by rw [g1]; exact I.bare) (fun _ z => nomatch z)
    have e : s' = { s with heap := s'.heap, gens := s'.gens, drawn := s'.drawn, toks := s'.toks } := by
      cases s'
      cases s
      cases o1
      rfl
    rw [e]
    exact ⟨.ref p, _, J, rfl, q p hpl hL⟩
def tSsc {K : Type} [DecidableEq K] (ν : Kd X.prog X.w K) (g : K → V) (enc : K → PyData) (f : Bool) (ta : TE) : TE := fun σ H Q => ta σ H fun x H1 => ∃ (A : Addr) (k0 : List K), x = .ref A ∧ H1 A = some (KSet ν A k0) ∧ k0.length < 4000 ∧
  ∀ ks : List K, ks.Nodup → (∀ x, x ∈ ks ↔ x ∈ k0) → if f = true then ∀ p, H1 p = none → ks.length ≤ sizeLine → Q (.ref p) (upd H1 p (.lst ((ks.mergeSort (PySem.W.dataLe false enc)).map g))) else Q (.int (ks.length : Nat)) H1
theorem pe_ssc {K : Type} [DecidableEq K] {ν : Kd X.prog X.w K} {g : K → V} {enc : K → PyData} (hg : ∀ k t, RelV (g k) (ν.wr k t))
    (hr : ∀ h k t, Reads h (ν.wr k t) (enc k) []) (ha : ∀ b b', PySem.W.alike (enc b) (enc b') = true) (hk : ∀ b, enc b ≠ .none ∧ ∀ xs, enc b ≠ .tuple xs) (hd : ∀ b, (enc b).depth = 0)
    {f : Bool} {nm : Str} {a : Expr} {ta : TE} {p pos : Pos} (hnm : nm = if f = true then "sorted" else "len") (hc : X.calm = true) (hu : X.A.units + 64 < cLine) (hgl : Gl X nm) (hm : X.mg nm = none) (he : PE X a ta)
    (na : starEach [a] X.env = (false, eval a X.env) :: starEach [] X.env) : PE X (.Call (.Name nm p) [a] [] pos) (tSsc ν g enc f ta) := by
  refine ⟨fun pins s σ H Q I h => ?_⟩
  have hb : bootBuiltins nm = some (.builtin (if f = true then "sorted" else "len")) := by
    subst hnm
    cases f
    · exact PySem.boot_len
    · exact PyProof.Rows.boot_sorted
  refine Call_ (ld_blt I hgl hm hb ?_ (by subst hnm; cases f <;> decide) (by subst hnm; cases f <;> decide))
  refine PyProof.Rows.callWith_builtin1 (PyProof.Rows.args_cons (thn (he.run pins s σ H _ I h) fun v s1 ⟨x, H1, I1, r1, q1⟩ => PyProof.Rows.args_nil ?_) na) na rfl
  obtain ⟨A, k0, rfl, hA, hl, q⟩ := q1
  cases r1
  exact set_end hg hr ha hk hd hc hu I1 hA hl q
theorem ints_id : ∀ l : List Int, intsD (l.map D.int) = some l
  | [] => rfl
  | x :: r => by
    show (match intsD (r.map D.int) with | some is => some (x :: is) | none => none) = _
    rw [ints_id r]
theorem strs_id : ∀ l : List (List Nat), strsD (l.map D.str) = some l
  | [] => rfl
  | x :: r => by
    show (match strsD (r.map D.str) with | some is => some (x :: is) | none => none) = _
    rw [strs_id r]
theorem ss_ints {f : Bool} {as : List Int} {Q : D → Prop} (q : ssR f (.lst (as.map D.int)) Q) {out : List Int} (o1 : out.Pairwise (· < ·)) (o2 : ∀ x, x ∈ out ↔ x ∈ as) : Q (if f = true then .lst (out.map .int) else .int (out.length : Nat)) := by
  rcases q.2 with ⟨is, e, qq⟩ | ⟨ss, e, qq⟩
  · rw [ints_id] at e
    injection e with e
    subst e
    exact qq out o1 o2
  · cases as with
    | nil =>
      have : out = [] := List.eq_nil_iff_forall_not_mem.mpr fun x hx => by cases (o2 x).mp hx
      subst this
      have e : some [] = some ss := e
      injection e with e
      subst e
      exact qq [] List.Pairwise.nil fun _ => Iff.rfl
    | cons a r => cases e
theorem ss_strs {f : Bool} {as : List (List Nat)} {Q : D → Prop} (q : ssR f (.lst (as.map D.str)) Q) {out : List (List Nat)} (o1 : out.Pairwise fun a b => sltB a b = true) (o2 : ∀ x, x ∈ out ↔ x ∈ as) : Q (if f = true then .lst (out.map .str) else .int (out.length : Nat)) := by
  rcases q.2 with ⟨is, e, qq⟩ | ⟨ss, e, qq⟩
  · cases as with
    | nil =>
      have : out = [] := List.eq_nil_iff_forall_not_mem.mpr fun x hx => by cases (o2 x).mp hx
      subst this
      have e : some [] = some is := e
      injection e with e
      subst e
      exact qq [] List.Pairwise.nil fun _ => Iff.rfl
    | cons a r => cases e
  · rw [strs_id] at e
    injection e with e
    subst e
    exact qq out o1 o2
/-- what is told behind it -/
theorem ssc_tail {f : Bool} {ws : List V} {es : List D} {W W' : Kn} {m m' : Mu} {H H' : Hp} {c : Nat} {Q : Pq} {QV : VK} (hr : ∀ W', RepL G W' ws es) (S' : SRel Z W' m' H') (S : SRel Z W m H) (st : Step W m H W' m' H' c) (hq : Q (if f = true then .lst es else .int (es.length : Nat)) m')
    (kq : ∀ d m1 v H1 W1, Step W m H W1 m1 H1 c → SRel Z W1 m1 H1 → Rep G W1 v d → Q d m1 → QV v H1) : if f = true then ∀ p, H' p = none → ws.length ≤ sizeLine → QV (.ref p) (upd H' p (.lst ws)) else QV (.int (ws.length : Nat)) H' := by
  cases f with
  | false =>
    rw [if_neg (by decide)] at hq ⊢
    rw [(hr W').length]
    exact kq _ m' _ H' W' st S' (.int _) hq
  | true =>
    rw [if_pos rfl] at hq ⊢
    intro p hp hL
    exact kq _ m' _ _ _ ((Step.trans S' st (Step.new S' hp)).weak (Nat.le_of_eq (Nat.add_zero _))) (S'.new (o := .lst ws) hp hL) (.lst (xs := ws) upd_same (hr _)) hq
theorem snd_ssc (h : XOk Z px cm cst Φ gv k C X) (f ki : Bool) (own : List Nat) {elt : E} (p : Pt) {it : It} {c : Eo} {lel : Scope → Lk} {lit : Expr → Lk} {lc : Scope → List Expr → Bool}
    (he2 : ∀ (scope : Scope) (X' : Cx), XOk Z.triv pF cm cst Φ gv k (C.blk scope) X' → OkP Z.triv X' (lel scope) (fun σ m Q => wpE Φ gv cm elt σ m Q (pF.at σ)) (cE cst elt))
    (hc : ∀ (scope : Scope) (X' : Cx), XOk Z.triv pF cm cst Φ gv k (C.blk scope) X' → OkTs Z.triv X' (lc scope) (fun σ m Q => wpTo Φ gv cm c σ m Q (pF.at σ)) (cEo cst c))
    (hi : OkI Z X lit (fun σ m Q => wpIt Φ gv cm it σ m Q (px.at σ)) (cIt cst it)) :
    OkP Z X (mSsc C f own lel p lit lc) (fun σ m Q => wpE Φ gv cm (.ssc f ki own elt p it c) σ m Q (px.at σ)) (cIt cst it + line * (cEo cst c + cE cst elt)) := by
  intro pe hm
  rcases bool_cases cm with hcm | hcm
  case inr =>
    refine ⟨fun pins s σ H QV I q => ?_⟩
    obtain ⟨W, m, σ, Q, hw, S, L, hn, kq⟩ := q
    have := hw.1
    rw [hcm] at this
    cases this
  unfold mSsc at hm
  split at hm
  · rename_i x p1 pelt pp pit pifs scope pos p2
    simp only [Bool.and_eq_true, decide_eq_true_eq] at hm
    obtain ⟨⟨⟨⟨⟨⟨⟨⟨hx, hbl⟩, h1⟩, h2⟩, h3⟩, h4⟩, h5⟩, h6⟩, h7⟩ := hm
    obtain ⟨g1, _, g3⟩ := bl_of h hbl
    have hblk : L2.BlkOk X.N X.env.scope scope (ownN C.N own) := by
      rw [h.N, h.sc]
      exact L2.blkOk_by h1
    have hnd : X.N.Nodup := by rw [h.N]; exact h.nd
    cases ki with
    | true =>
      have hpe := pe_ssc (ν := kvI X.prog X.w) (g := V.int) (enc := PyData.int) (p := p1) (pos := p2) (fun k t => ⟨t, rfl⟩) (fun h k t => .int k t) (fun _ _ => rfl) (fun _ => ⟨nofun, nofun⟩) (fun _ => rfl) hx (h.calm hcm) h.units g1 g3
        (pe_scV (ν := kvI X.prog X.w) (g := V.int) (pos := pos) (fun k v ⟨t, e⟩ => ⟨t, e⟩) (h.calm hcm) hnd (hi _ _ h4) hblk (fun s H D cl fp => snd_pt (h.blk s H scope D cl fp hcm) p pp (ptB_of hcm) h5) (fun s H D cl fp => hc scope _ (h.blk s H scope D cl fp hcm) pifs h7)
          (fun s H D cl fp => he2 scope _ (h.blk s H scope D cl fp hcm) pelt h6) (foldedSet_of h2 _)) rfl
      rw [own_snd] at hpe
      refine PE.of hpe ?_
      intro s H QV q
      obtain ⟨W, m, σ, Q, hw, S, L, hn, kq⟩ := q
      refine ⟨W, m, σ, _, hw.2, S, L, by omega, fun items gs m1 H1 W1 J st1 S1 wk hlen q1 => ?_⟩
      intro A hA
      refine sc_turns (ν := kvI X.prog X.w) (α := Int) (kk := id) (dk := D.int) (g := V.int) (ki := true) (QV := fun x H1 => ∃ (A : Addr) (k0 : List Int), x = .ref A ∧ H1 A = some (KSet (kvI X.prog X.w) A k0) ∧ k0.length < 4000 ∧ ∀ ks : List Int, ks.Nodup → (∀ x, x ∈ ks ↔ x ∈ k0) → if f = true then ∀ p, H1 p = none → ks.length ≤ sizeLine → QV (.ref p) (upd H1 p (.lst ((ks.mergeSort (PySem.W.dataLe false PyData.int)).map V.int))) else QV (.int (ks.length : Nat)) H1) (fun {W v a} r => ?_) (fun d hd => ?_) h3 st1 S1.toSRel0 ((L.mono st1.le).triv (h.xs0 hcm)) wk hlen hA hn q1 ?_
      · cases r
        rfl
      · cases d <;> first | exact ⟨_, rfl⟩ | cases hd
      intro as m' H' W' gr q'
      obtain ⟨k0, e1, e2, e3⟩ := gr.ex
      have hl := q'.1
      rw [List.length_map] at hl e2
      refine ⟨A, k0, rfl, e1, by omega, fun ks nd hks => ?_⟩
      obtain ⟨out, o1, o2, o3⟩ := sort_ints nd (is := as) fun x => by rw [hks, e3, List.map_id]
      have st := Step.trans0 S1.toSRel0 st1 gr.st
      have hq := ss_ints q' o2 o3
      have el : out.length = ks.length := by rw [← o1, List.length_mergeSort]
      have tl := ssc_tail (f := f) (ws := out.map V.int) (es := out.map D.int) (Q := Q) (QV := QV) (fun W' => int_reps out) (S.step gr.S st) S st (by rw [List.length_map]; exact hq) kq
      rw [List.length_map, el] at tl
      rw [show (PySem.W.dataLe false PyData.int) = PySem.W.dataLe false fun b : Int => PyData.int b from rfl, o1]
      exact tl
    | false =>
      have hpe := pe_ssc (ν := kvS X.prog X.w) (g := V.str) (enc := PyData.str) (p := p1) (pos := p2) (fun k t => ⟨t, rfl⟩) (fun h k t => .str k t) (fun _ _ => rfl) (fun _ => ⟨nofun, nofun⟩) (fun _ => rfl) hx (h.calm hcm) h.units g1 g3
        (pe_scV (ν := kvS X.prog X.w) (g := V.str) (pos := pos) (fun k v ⟨t, e⟩ => ⟨t, e⟩) (h.calm hcm) hnd (hi _ _ h4) hblk (fun s H D cl fp => snd_pt (h.blk s H scope D cl fp hcm) p pp (ptB_of hcm) h5) (fun s H D cl fp => hc scope _ (h.blk s H scope D cl fp hcm) pifs h7)
          (fun s H D cl fp => he2 scope _ (h.blk s H scope D cl fp hcm) pelt h6) (foldedSet_of h2 _)) rfl
      rw [own_snd] at hpe
      refine PE.of hpe ?_
      intro s H QV q
      obtain ⟨W, m, σ, Q, hw, S, L, hn, kq⟩ := q
      refine ⟨W, m, σ, _, hw.2, S, L, by omega, fun items gs m1 H1 W1 J st1 S1 wk hlen q1 => ?_⟩
      intro A hA
      refine sc_turns (ν := kvS X.prog X.w) (α := List Nat) (kk := mkS) (dk := D.str) (g := V.str) (ki := false) (QV := fun x H1 => ∃ (A : Addr) (k0 : List Str), x = .ref A ∧ H1 A = some (KSet (kvS X.prog X.w) A k0) ∧ k0.length < 4000 ∧ ∀ ks : List Str, ks.Nodup → (∀ x, x ∈ ks ↔ x ∈ k0) → if f = true then ∀ p, H1 p = none → ks.length ≤ sizeLine → QV (.ref p) (upd H1 p (.lst ((ks.mergeSort (PySem.W.dataLe false PyData.str)).map V.str))) else QV (.int (ks.length : Nat)) H1) (fun {W v a} r => ?_) (fun d hd => ?_) h3 st1 S1.toSRel0 ((L.mono st1.le).triv (h.xs0 hcm)) wk hlen hA hn q1 ?_
      · cases r
        rfl
      · cases d <;> first | exact ⟨_, rfl⟩ | cases hd
      intro as m' H' W' gr q'
      obtain ⟨k0, e1, e2, e3⟩ := gr.ex
      have hl := q'.1
      rw [List.length_map] at hl e2
      refine ⟨A, k0, rfl, e1, by omega, fun ks nd hks => ?_⟩
      obtain ⟨out, o1, o2, o3⟩ := sort_strs nd (ss := as) fun x => by rw [hks, e3]
      have st := Step.trans0 S1.toSRel0 st1 gr.st
      have hq := ss_strs q' o2 o3
      have el : out.length = ks.length := by rw [← List.length_map (f := mkS), ← o1, List.length_mergeSort]
      have tl := ssc_tail (f := f) (ws := (out.map mkS).map V.str) (es := out.map D.str) (Q := Q) (QV := QV) (fun W' => str_reps out) (S.step gr.S st) S st (by rw [List.length_map]; exact hq) kq
      rw [List.length_map, List.length_map, el] at tl
      rw [show (PySem.W.dataLe false PyData.str) = PySem.W.dataLe false fun b : Str => PyData.str b from rfl, o1]
      exact tl
  · cases hm
end
end Pk

/-! An exception's field, its class; a def called with an exception. -/
namespace Pk
open PySem L2
section
variable {G : Gs} {Z : Zs G} {px : PxE} {cm : Bool} {cst : Nat → Nat} {Φ : Fs} {gv : Nat → D} {k : Nat} {C : Ct} {X : Cx}
/-- the exception that a name holds -/
theorem pe_exn (h : XOk Z px cm cst Φ gv k C X) {i : Nat} {x : Str} {p : Pos} (hl : mVar C i (.Name x p) = true) : PE X (.Name x p) (tVar i) := by
  unfold mVar at hl
  simp only [Bool.and_eq_true, decide_eq_true_eq, Bool.not_eq_true', decide_eq_false_iff_not] at hl
  obtain ⟨⟨⟨h1, h2⟩, h3⟩, h4⟩ := hl
  exact pe_var (i := i) (by rw [h.N]; exact h1) (vis_of h h2) (beq_eq_false_iff_ne.mpr h3) (beq_eq_false_iff_ne.mpr h4)
theorem snd_xfld (h : XOk Z px cm cst Φ gv k C X) (i f : Nat) : OkP Z X (mXfld C i f) (fun σ m Q => wpE Φ gv cm (.xfld i f) σ m Q (px.at σ)) 0 := by
  intro pe hl
  unfold mXfld at hl
  split at hl
  · rename_i x p y pos
    rw [Bool.and_eq_true, decide_eq_true_eq] at hl
    obtain ⟨h1, h2⟩ := hl
    refine ⟨fun pins s st H QV I q => ?_⟩
    obtain ⟨W, m, σ, Q, ⟨c, d, e1, q1⟩, S, L, hn, kq⟩ := q
    obtain ⟨t, hx, rfl, ef, es⟩ := L.ex i _ _ e1
    obtain ⟨oe, hp, hz, hf⟩ := h.xs i t hx
    obtain ⟨_, hk, alt⟩ := Z.xd S.toSRel0 S.en i t hx
    obtain ⟨e2, hfl⟩ := h.ex.fields f y h2
    obtain ⟨T, hno⟩ := hfl _ hk
    rw [← h.K] at T hno
    have ef : t.fs = [(f, d)] := ef.symm
    rcases alt with ⟨e3, _⟩ | ⟨dd, fv, e3, e4, r⟩
    · have e3 : t.fs = [] := e3
      rw [ef] at e3
      cases e3
    · have r : RepF G W fv t.fs := r
      rw [ef] at r
      obtain ⟨r1, r2⟩ := r
      cases fv with
      | nil => simp at r1
      | cons a fv =>
        cases fv with
        | cons _ _ => simp at r1
        | nil =>
          obtain ⟨g, v⟩ := a
          have eg : g = G.fld f := by
            have := List.cons.inj r1
            exact this.1
          cases r2 with
          | cons r3 r4 =>
            refine (pe_xfd hp T hno hz hf (pe_exn h h1) rfl).run pins s st H QV I ⟨_, es, rfl, dd, _, v, e3, e4, ?_, ?_⟩
            · rw [eg, e2]
              simp [List.lookup]
            · exact kq d m v H W (Step.refl ..) S r3 q1
  · cases hl
theorem xis_run (h : XOk Z px cm cst Φ gv k C X) {i c : Nat} {x y z : Str} {p p1 p2 pos : Pos} (hb : blB C x = true) (hx : x = "isinstance") (h1 : mVar C i (.Name y p) = true) (h2 : C.xn c = some z) (h3 : glB C.sc z = true)
    {pins : List (Addr × Obj)} {s : Shared} {st : L2.St} {H : Hp} {QV : VK} (I : L2.Inv X pins st H s) {W : Kn} {m : Mu} {σ : Env} (S : SRel Z W m H) (L : SlotR Z W σ st) {c' : Nat} {fs : List (Nat × D)} (e1 : σ[i]? = some (.exn c' fs)) (kq : QV (.bl (subX c' c)) H) :
    wpAny (model X.prog X.w) X.A (eval (.Call (.Name x p1) [.Name y p, .Name z p2] [] pos) X.env) (EP X pins st QV) X.xe s := by
  subst hx
  obtain ⟨g1, _, g3⟩ := bl_of h hb
  obtain ⟨g4, g5⟩ := gl_of h h3
  obtain ⟨t, hx, rfl, rfl, es⟩ := L.ex i _ _ e1
  obtain ⟨oe, hp, hz, hf⟩ := h.xs i t hx
  obtain ⟨_, hk, alt⟩ := Z.xd S.toSRel0 S.en i t hx
  obtain ⟨T, e2, e3⟩ := h.ex.known c z h2 _ hk
  rw [← h.K] at T e2
  refine (pe_xis (cv := clsV G c) hp T hz hf g1 g3 (pe_exn h h1) (h.ex.nameX h2 g4 g5) rfl).run pins s st H QV I ⟨_, es, rfl, ?_, _, e2, kq⟩
  rcases alt with ⟨_, e⟩ | ⟨dd, fv, e4, e5, _⟩
  · exact .inl e
  · exact .inr ⟨dd, fv, e4, e5⟩
theorem snd_xis (h : XOk Z px cm cst Φ gv k C X) (i c : Nat) : OkP Z X (mXis C i c) (fun σ m Q => wpE Φ gv cm (.xis i c) σ m Q (px.at σ)) 0 := by
  intro pe hl
  unfold mXis at hl
  split at hl
  · simp only [Bool.and_eq_true, decide_eq_true_eq] at hl
    obtain ⟨⟨⟨⟨h1, h2⟩, h3⟩, h4⟩, h5⟩ := hl
    refine ⟨fun pins s st H QV I q => ?_⟩
    obtain ⟨W, m, σ, Q, ⟨c', fs, e1, q1⟩, S, L, hn, kq⟩ := q
    exact xis_run h h2 h1 h3 h4 h5 I S L e1 (kq _ m _ H W (Step.refl ..) S (.bl _) q1)
  · cases hl
theorem snd_callx (h : XOk Z px cm cst Φ gv k C X) (f i : Nat) : OkP Z X (mCallx C f i) (fun σ m Q => wpE Φ gv cm (.callx f i) σ m Q (px.at σ)) (cst f) := by
  intro pe hl
  unfold mCallx at hl
  split at hl
  · rename_i x p1 y p pos
    simp only [Bool.and_eq_true, decide_eq_true_eq] at hl
    obtain ⟨⟨h1, h2⟩, h3⟩ := hl
    obtain ⟨g1, g2⟩ := gl_of h h2
    obtain ⟨fa, fd, ps, q1, q2, q3, q4, _⟩ := h.callN f x h1
    have ha : PA X [.Name y p] _ := pa_cons (pe_exn h h3) pa_nil
    refine PE.of (pe_callN q3 h.rooH g1 q1 q2 q4 .nil (passAt h.tk) ha g2 rfl rfl) ?_
    intro s H QV q
    obtain ⟨W, m, σ, Q, ⟨hc, c, fs, e1, q1⟩, S, L, hn, kq⟩ := q
    obtain ⟨t, hx, rfl, rfl, es⟩ := L.ex i _ _ e1
    obtain ⟨oe, hp, hz, hf⟩ := h.xs i t hx
    have rx := Z.xd S.toSRel0 S.en i t hx
    have hpx := h.nox hc
    subst hpx
    have hl := h.lim
    refine ⟨_, es, W, m, _, Q, q1, S.toSRel0, .inr ⟨t, oe, rfl, rfl, hp, hz, hf, rx⟩, by omega, fun d m' v H' W' st S' r q2 => ?_⟩
    exact kq d m' v H' W' st (S.step S' st) r q2
  · cases hl
end
end Pk

/-! f-strings. -/
namespace Pk
open PySem L2
section
variable {G : Gs} {Z : Zs G} {px : PxE} {cm : Bool} {cst : Nat → Nat} {Φ : Fs} {gv : Nat → D} {k : Nat} {C : Ct} {X : Cx}
/-- what a list of parts does -/
def OkF (Z : Zs G) (X : Cx) (l : List Expr → Bool) (w : List Nat → Env → Mu → (List Nat → Mu → Prop) → Prop) (c : Nat) : Prop := ∀ pes, l pes = true → ∃ ts, PJ X pes ts ∧ ∀ (acc : List Nat) (s : L2.St) (H : Hp) (QS : Str → Hp → Prop) (W : Kn) (m : Mu) (σ : Env) (Q : List Nat → Mu → Prop),
  w acc σ m Q → SRel Z W m H → SlotR Z W σ s → W.n + c ≤ Z.lim → (∀ out m' H' W', Step W m H W' m' H' c → SRel Z W' m' H' → Q out m' → QS (mkS out) H') → tJs ts (mkS acc) s H QS
theorem snf_nil : OkF Z X (fun ps => ps.isEmpty) (fun acc σ m Q => wpFs Φ gv cm .nil acc σ m Q (px.at σ)) 0 := by
  intro pes hm
  cases pes with
  | cons _ _ => cases hm
  | nil => exact ⟨[], .nil, fun acc s H QS W m σ Q hw S L hn kq => kq acc m H W (Step.refl ..) S hw⟩
theorem app_mk (a b : List Nat) : mkS a ++ mkS b = mkS (a ++ b) := by
  show (⟨a.toArray ++ b.toArray⟩ : Str) = ⟨(a ++ b).toArray⟩
  simp
theorem snf_cons {e : E} {r : Es} {le : Lk} {lr : List Expr → Bool} (he : OkP Z X le (fun σ m Q => wpE Φ gv cm e σ m Q (px.at σ)) (cE cst e)) (hr : OkF Z X lr (fun acc σ m Q => wpFs Φ gv cm r acc σ m Q (px.at σ)) (cEs cst r)) :
    OkF Z X (fun ps => match ps with
      | [] => false
      | p :: ps => mFp e le p && lr ps) (fun acc σ m Q => wpFs Φ gv cm (.cons e r) acc σ m Q (px.at σ)) (cE cst e + cEs cst r) := by
  intro pes hm
  cases pes with
  | nil => cases hm
  | cons p ps =>
    have hm : (mFp e le p && lr ps) = true := hm
    rw [Bool.and_eq_true] at hm
    obtain ⟨hp, hps⟩ := hm
    obtain ⟨ts, hj, go⟩ := hr _ hps
    -- from the value of the part on
    have tail : ∀ (acc : List Nat) (s : L2.St) (QS : Str → Hp → Prop) (W : Kn) (m : Mu) (σ : Env) (Q : List Nat → Mu → Prop) (H : Hp), SRel Z W m H → SlotR Z W σ s → W.n + (cE cst e + cEs cst r) ≤ Z.lim →
        (∀ out m' H' W', Step W m H W' m' H' (cE cst e + cEs cst r) → SRel Z W' m' H' → Q out m' → QS (mkS out) H') → ∀ (t : List Nat) (m1 : Mu) (H1 : Hp) (W1 : Kn), Step W m H W1 m1 H1 (cE cst e) → SRel Z W1 m1 H1 → acc.length + t.length ≤ line → wpFs Φ gv cm r (acc ++ t) σ m1 Q (px.at σ) →
        ∃ y : Str, (V.str (mkS t)) = .str y ∧ (mkS acc ++ y).length ≤ sizeLine ∧ tJs ts (mkS acc ++ y) s H1 QS := by
      intro acc s QS W m σ Q H S L hn kq t m1 H1 W1 st1 S1 hl hw
      have n1 := st1.n
      refine ⟨mkS t, rfl, ?_, ?_⟩
      · rw [app_mk]
        show (acc ++ t).toArray.size ≤ sizeLine
        rw [← line_eq]
        simpa using hl
      · rw [app_mk]
        exact go (acc ++ t) s H1 QS W1 m1 σ Q hw S1 (L.mono st1.le) (by omega) fun out m' H' W' st S' q => kq out m' H' W' (Step.trans S1 st1 st) S' q
    unfold mFp at hp
    split at hp
    · rename_i pe c p1
      rw [Bool.and_eq_true, decide_eq_true_eq] at hp
      obtain ⟨rfl, hp⟩ := hp
      refine ⟨_, .cons (pe_fmt (he _ hp)) hj, fun acc s H QS W m σ Q hw S L hn kq => ?_⟩
      refine ⟨W, m, σ, _, hw, S, L, by omega, fun d m1 v H1 W1 st1 S1 rv q1 => ?_⟩
      obtain ⟨t, e1, e2, q2⟩ := q1
      have q3 := tail acc s QS W m σ Q H S L hn kq t m1 H1 W1 st1 S1 e2 q2
      cases d with
      | str z =>
        have e1 : some z = some t := e1
        cases e1
        cases rv
        refine .inl ⟨mkS t, rfl, ?_, q3⟩
        show t.toArray.size ≤ sizeLine
        rw [← line_eq]
        simp
        omega
      | int i =>
        cases rv
        have e1 : (if i.natAbs.log2 < 1920 then some (intS i) else none) = some t := e1
        by_cases hi : i.natAbs.log2 < 1920
        · rw [if_pos hi] at e1
          cases e1
          refine .inr ⟨i, rfl, hi, ?_⟩
          rw [int_text] at q3
          exact q3
        · rw [if_neg hi] at e1
          cases e1
      | _ => cases e1
    · rename_i kk i p1
      rw [Bool.and_eq_true] at hp
      obtain ⟨he2, hp⟩ := hp
      split at he2
      · rename_i z
        refine ⟨_, .cons (he _ hp) hj, fun acc s H QS W m σ Q hw S L hn kq => ?_⟩
        refine ⟨W, m, σ, fun d m1 => d = .str z ∧ ∃ t, fmtD d = some t ∧ acc.length + t.length ≤ line ∧ wpFs Φ gv cm r (acc ++ t) σ m1 Q (px.at σ), ⟨rfl, hw⟩, S, L, by omega, fun d m1 v H1 W1 st1 S1 rv q1 => ?_⟩
        obtain ⟨rfl, t, e1, e2, q2⟩ := q1
        have q3 := tail acc s QS W m σ Q H S L hn kq t m1 H1 W1 st1 S1 e2 q2
        have e1 : some z = some t := e1
        cases e1
        cases rv
        exact q3
      · cases he2
    · cases hp
theorem snd_fst {es : Es} {l : List Expr → Bool} (he : OkF Z X l (fun acc σ m Q => wpFs Φ gv cm es acc σ m Q (px.at σ)) (cEs cst es)) : OkP Z X (mFst l) (fun σ m Q => wpE Φ gv cm (.fst es) σ m Q (px.at σ)) (cEs cst es) := by
  intro pe hm
  unfold mFst at hm
  split at hm
  · obtain ⟨ts, hj, go⟩ := he _ hm
    refine PE.of (pe_joined hj) ?_
    intro s H QV q
    obtain ⟨W, m, σ, Q, hw, S, L, hn, kq⟩ := q
    exact go [] s H _ W m σ _ hw S L hn fun out m' H' W' st S' q => kq _ m' _ H' W' st S' (.str out) q
  · cases hm
end
end Pk

/-! All expressions. -/
namespace Pk
open PySem L2
section
variable {G : Gs} {cst : Nat → Nat} {Φ : Fs} {gv : Nat → D} {k : Nat}
theorem snt_no {Z : Zs G} {X : Cx} {l : Lk} {c : Nat} {w : Env → Mu → (Bool → Mu → Prop) → Prop} (hw : ∀ σ m Q, w σ m Q → False) : OkT Z X l w c := by
  intro pe hl
  refine ⟨fun pins s σ H Q I q => ?_⟩
  obtain ⟨W, m, σ, Q, hw1, _⟩ := q
  exact (hw _ _ _ hw1).elim
theorem pT_var {C : Ct} {i : Nat} : ∀ pe, mVar C i pe = true → plainT pe = true := by
  intro pe h
  unfold mVar at h
  split at h
  · rfl
  · cases h
theorem pT_ix {a b : Lk} : ∀ pe, mIx a b pe = true → plainT pe = true := by
  intro pe h
  unfold mIx at h
  split at h
  · rfl
  · cases h
theorem pT_call {C : Ct} {f : Nat} {l : List Expr → Bool} : ∀ pe, mCall C f l pe = true → plainT pe = true := by
  intro pe h
  unfold mCall at h
  split at h
  · rfl
  · rfl
  · cases h
theorem pT_calld {C : Ct} {f : Nat} {l : List Expr → Bool} {cs : List Cn} : ∀ pe, mCallD C f l cs pe = true → plainT pe = true := by
  intro pe h
  unfold mCallD at h
  split at h
  · rfl
  · cases h
theorem pT_bi {C : Ct} {f : Bi} {l : List Expr → Bool} : ∀ pe, mBi C f l pe = true → plainT pe = true := by
  intro pe h
  unfold mBi at h
  split at h
  · rfl
  · cases h
theorem pT_isi {C : Ct} {a : Lk} {ts : List Ty} : ∀ pe, mIsi C a ts pe = true → plainT pe = true := by
  intro pe h
  unfold mIsi at h
  split at h
  · rfl
  · rfl
  · cases h
theorem pT_xis {C : Ct} {i c : Nat} : ∀ pe, mXis C i c pe = true → plainT pe = true := by
  intro pe h
  unfold mXis at h
  split at h
  · rfl
  · cases h
theorem pT_callx {C : Ct} {f i : Nat} : ∀ pe, mCallx C f i pe = true → plainT pe = true := by
  intro pe h
  unfold mCallx at h
  split at h
  · rfl
  · cases h
theorem pT_meth {C : Ct} {a : Lk} {f c : Nat} {l : List Expr → Bool} {cs : List Cn} : ∀ pe, mMeth C f c a l cs pe = true → plainT pe = true := by
  intro pe h
  unfold mMeth at h
  split at h
  · rfl
  · cases h
mutual
theorem sndE : ∀ (e : E) (Z : Zs G) (px : PxE) (cm : Bool) (C : Ct) (X : Cx), XOk Z px cm cst Φ gv k C X → OkP Z X (mE e C) (fun σ m Q => wpE Φ gv cm e σ m Q (px.at σ)) (cE cst e)
  | .var i, Z, px, cm, C, X, h => snd_var h i
  | .non, Z, px, cm, C, X, h => snd_non
  | .bl b, Z, px, cm, C, X, h => snd_bl b
  | .int i, Z, px, cm, C, X, h => snd_int i
  | .str s, Z, px, cm, C, X, h => snd_str s
  | .glob g, Z, px, cm, C, X, h => snd_glob h g
  | .op2 o a b, Z, px, cm, C, X, h => snd_op2 h o (sndE a Z px cm C X h) (sndE b Z px cm C X h)
  | .neg a, Z, px, cm, C, X, h => snd_neg (sndE a Z px cm C X h)
  | .cmp c a b, Z, px, cm, C, X, h => snd_cmp h c (sndE a Z px cm C X h) (sndE b Z px cm C X h)
  | .chain c d a b e, Z, px, cm, C, X, h => snd_chain h c d (sndE a Z px cm C X h) (sndE b Z px cm C X h) (sndE e Z px cm C X h)
  | .and a b, Z, px, cm, C, X, h => snd_and h (sndE a Z px cm C X h) (sndE b Z px cm C X h)
  | .or a b, Z, px, cm, C, X, h => snd_or h (sndE a Z px cm C X h) (sndE b Z px cm C X h)
  | .not a, Z, px, cm, C, X, h => snd_not h (sndE a Z px cm C X h)
  | .ife t a b, Z, px, cm, C, X, h => snd_ife (sndT t Z px cm C X h) (sndE a Z px cm C X h) (sndE b Z px cm C X h)
  | .tup es, Z, px, cm, C, X, h => snd_tup (sndEs es Z px cm C X h)
  | .lst es, Z, px, cm, C, X, h => snd_lst (sndEs es Z px cm C X h)
  | .ix a b, Z, px, cm, C, X, h => snd_ix h (sndE a Z px cm C X h) (sndE b Z px cm C X h)
  | .slc a lo hi, Z, px, cm, C, X, h => snd_slc h (sndE a Z px cm C X h) (sndEo lo Z px cm C X h) (sndEo hi Z px cm C X h)
  | .rev a, Z, px, cm, C, X, h => snd_rev h (sndE a Z px cm C X h)
  | .call f .nil, Z, px, cm, C, X, h => snd_call0 h f
  | .call f (.cons e r), Z, px, cm, C, X, h => snd_call h f rfl (sndEs (.cons e r) Z px cm C X h)
  | .calld f es cs, Z, px, cm, C, X, h => snd_calld h f cs (sndEs es Z px cm C X h)
  | .bi f es, Z, px, cm, C, X, h => snd_bi h f (sndEs es Z px cm C X h)
  | .sm f a e, Z, px, cm, C, X, h => snd_sm h f (sndE a Z px cm C X h) (sndE e Z px cm C X h)
  | .cntT a, Z, px, cm, C, X, h => snd_cntT h (sndE a Z px cm C X h)
  | .up a, Z, px, cm, C, X, h => snd_up (sndE a Z px cm C X h)
  | .isi a ts, Z, px, cm, C, X, h => snd_isi h ts (sndE a Z px cm C X h)
  | .comp own elt p it c, Z, px, cm, C, X, h => snd_comp h own p (fun scope X' h' => sndE elt Z.triv pF cm (C.blk scope) X' h') (fun scope X' h' => sndTo c Z.triv pF cm (C.blk scope) X' h') (sndIt it Z px cm C X h)
  | .comp2 own own1 elt p it c p1 it1 c1, Z, px, cm, C, X, h => snd_comp2 h own own1 p p1 (fun scope X' h' => sndE elt Z.triv pF cm (C.blk scope) X' h') (fun scope X' h' => sndTo c Z.triv pF cm (C.blk scope) X' h') (sndIt it Z px cm C X h) (fun scope X' h' => sndIt it1 Z.triv pF cm (C.blk scope) X' h') (fun scope X' h' => sndTo c1 Z.triv pF cm (C.blk scope) X' h')
  | .ssc f ki own elt p it c, Z, px, cm, C, X, h => snd_ssc h f ki own p (fun scope X' h' => sndE elt Z.triv pF cm (C.blk scope) X' h') (fun scope X' h' => sndTo c Z.triv pF cm (C.blk scope) X' h') (sndIt it Z px cm C X h)
  | .bx (.ssc _ _ _ _ _ _ _), Z, px, cm, C, X, h => bx_of fun z => by cases z
  | .bx (.lst es), Z, px, cm, C, X, h => bx_of fun _ => snd_bxL (sndEs es Z px cm C X h)
  | .bx (.comp own elt p it c), Z, px, cm, C, X, h => bx_of fun _ => snd_bxC h own p (fun scope X' h' => sndE elt Z.triv pF cm (C.blk scope) X' h') (fun scope X' h' => sndTo c Z.triv pF cm (C.blk scope) X' h') (sndIt it Z px cm C X h)
  | .bx (.comp2 own own1 elt p it c p1 it1 c1), Z, px, cm, C, X, h => bx_of fun _ => snd_bxC2 h own own1 p p1 (fun scope X' h' => sndE elt Z.triv pF cm (C.blk scope) X' h') (fun scope X' h' => sndTo c Z.triv pF cm (C.blk scope) X' h') (sndIt it Z px cm C X h) (fun scope X' h' => sndIt it1 Z.triv pF cm (C.blk scope) X' h') (fun scope X' h' => sndTo c1 Z.triv pF cm (C.blk scope) X' h')
  | .bx (.var _), Z, px, cm, C, X, h => bx_of fun z => by cases z
  | .bx .non, Z, px, cm, C, X, h => bx_of fun z => by cases z
  | .bx (.bl _), Z, px, cm, C, X, h => bx_of fun z => by cases z
  | .bx (.int _), Z, px, cm, C, X, h => bx_of fun z => by cases z
  | .bx (.str _), Z, px, cm, C, X, h => bx_of fun z => by cases z
  | .bx (.glob _), Z, px, cm, C, X, h => bx_of fun z => by cases z
  | .bx (.op2 _ _ _), Z, px, cm, C, X, h => bx_of fun z => by cases z
  | .bx (.neg _), Z, px, cm, C, X, h => bx_of fun z => by cases z
  | .bx (.cmp _ _ _), Z, px, cm, C, X, h => bx_of fun z => by cases z
  | .bx (.chain _ _ _ _ _), Z, px, cm, C, X, h => bx_of fun z => by cases z
  | .bx (.and _ _), Z, px, cm, C, X, h => bx_of fun z => by cases z
  | .bx (.or _ _), Z, px, cm, C, X, h => bx_of fun z => by cases z
  | .bx (.not _), Z, px, cm, C, X, h => bx_of fun z => by cases z
  | .bx (.ife _ _ _), Z, px, cm, C, X, h => bx_of fun z => by cases z
  | .bx (.tup _), Z, px, cm, C, X, h => bx_of fun z => by cases z
  | .bx (.ix _ _), Z, px, cm, C, X, h => bx_of fun z => by cases z
  | .bx (.slc _ _ _), Z, px, cm, C, X, h => bx_of fun z => by cases z
  | .bx (.rev _), Z, px, cm, C, X, h => bx_of fun z => by cases z
  | .bx (.call _ _), Z, px, cm, C, X, h => bx_of fun z => by cases z
  | .bx (.calld _ _ _), Z, px, cm, C, X, h => bx_of fun z => by cases z
  | .bx (.bi f es), Z, px, cm, C, X, h => bx_of fun z => snd_bxBi h f z (sndEs es Z px cm C X h)
  | .bx (.sm _ _ _), Z, px, cm, C, X, h => bx_of fun z => by cases z
  | .bx (.cntT _), Z, px, cm, C, X, h => bx_of fun z => by cases z
  | .bx (.up _), Z, px, cm, C, X, h => bx_of fun z => by cases z
  | .bx (.isi _ _), Z, px, cm, C, X, h => bx_of fun z => by cases z
  | .bx (.sset _ _), Z, px, cm, C, X, h => bx_of fun z => by cases z
  | .bx (.xfld _ _), Z, px, cm, C, X, h => bx_of fun z => by cases z
  | .bx (.xis _ _), Z, px, cm, C, X, h => bx_of fun z => by cases z
  | .bx (.callx _ _), Z, px, cm, C, X, h => bx_of fun z => by cases z
  | .bx (.fst _), Z, px, cm, C, X, h => bx_of fun z => by cases z
  | .bx (.mth _ _ _), Z, px, cm, C, X, h => bx_of fun z => by cases z
  | .bx (.lrg _), Z, px, cm, C, X, h => bx_of fun z => by cases z
  | .bx (.inD _ _ _), Z, px, cm, C, X, h => bx_of fun z => by cases z
  | .bx (.fld _ _), Z, px, cm, C, X, h => bx_of fun z => by cases z
  | .bx (.meth _ _ _ _ _), Z, px, cm, C, X, h => bx_of fun z => by cases z
  | .bx (.make _ _), Z, px, cm, C, X, h => bx_of fun z => by cases z
  | .bx (.bx _), Z, px, cm, C, X, h => bx_of fun z => by cases z
  | .sset f e, Z, px, cm, C, X, h => snd_sset h f (sndE e Z px cm C X h)
  | .xfld i f, Z, px, cm, C, X, h => snd_xfld h i f
  | .xis i c, Z, px, cm, C, X, h => snd_xis h i c
  | .callx f i, Z, px, cm, C, X, h => snd_callx h f i
  | .fst es, Z, px, cm, C, X, h => snd_fst (sndFs es Z px cm C X h)
  | .mth f a es, Z, px, cm, C, X, h => snd_mth h f (sndE a Z px cm C X h) (sndEs es Z px cm C X h) mEs_nil
  | .lrg a, Z, px, cm, C, X, h => snd_lrg h (sndE a Z px cm C X h)
  | .inD neg a b, Z, px, cm, C, X, h => snd_inD h neg (sndE a Z px cm C X h) (sndE b Z px cm C X h)
  | .fld a f, Z, px, cm, C, X, h => snd_fld h f (sndE a Z px cm C X h)
  | .meth f c a es cs, Z, px, cm, C, X, h => snd_meth h f c cs (sndE a Z px cm C X h) (sndEs es Z px cm C X h) mEs_nil
  | .make f es, Z, px, cm, C, X, h => snd_make h f (sndEs es Z px cm C X h)
theorem sndT : ∀ (e : E) (Z : Zs G) (px : PxE) (cm : Bool) (C : Ct) (X : Cx), XOk Z px cm cst Φ gv k C X → OkT Z X (mE e C) (fun σ m Q => wpT Φ gv cm e σ m Q (px.at σ)) (cE cst e)
  | .and a b, Z, px, cm, C, X, h => snt_and (sndT a Z px cm C X h) (sndT b Z px cm C X h)
  | .or a b, Z, px, cm, C, X, h => snt_or (sndT a Z px cm C X h) (sndT b Z px cm C X h)
  | .not a, Z, px, cm, C, X, h => snt_not (sndT a Z px cm C X h)
  | .cmp c a b, Z, px, cm, C, X, h => snt_cmp h c (sndE a Z px cm C X h) (sndE b Z px cm C X h)
  | .chain c d a b e, Z, px, cm, C, X, h => snt_chain h c d (sndE a Z px cm C X h) (sndE b Z px cm C X h) (sndE e Z px cm C X h)
  | .var i, Z, px, cm, C, X, h => snt_plain h pT_var (snd_var h i) fun σ m Q q => by
    obtain ⟨d, e1, t, e2, q⟩ := q
    refine ⟨d, e1, ?_, t, e2, q⟩
    cases d <;> first | rfl | cases e2
  | .ix a b, Z, px, cm, C, X, h => snt_plain h pT_ix (snd_ix h (sndE a Z px cm C X h) (sndE b Z px cm C X h)) fun _ _ _ q => q
  | .call f .nil, Z, px, cm, C, X, h => snt_plain h pT_call (snd_call0 h f) fun _ _ _ q => q
  | .call f (.cons e r), Z, px, cm, C, X, h => snt_plain h pT_call (snd_call h f rfl (sndEs (.cons e r) Z px cm C X h)) fun _ _ _ q => q
  | .bi f es, Z, px, cm, C, X, h => snt_plain h pT_bi (snd_bi h f (sndEs es Z px cm C X h)) fun _ _ _ q => q
  | .isi a ts, Z, px, cm, C, X, h => snt_plain (w := fun σ m Q => wpE Φ gv cm (.isi a ts) σ m Q (px.at σ)) (c := cE cst a) h pT_isi (snd_isi (a := a) h ts (sndE a Z px cm C X h)) fun _ _ _ q => q
  | .calld f es cs, Z, px, cm, C, X, h => snt_no fun _ _ _ q => q
  | .cntT a, Z, px, cm, C, X, h => snt_no fun _ _ _ q => q
  | .up a, Z, px, cm, C, X, h => snt_no fun _ _ _ q => q
  | .non, Z, px, cm, C, X, h => snt_no fun _ _ _ q => q
  | .bl b, Z, px, cm, C, X, h => snt_no fun _ _ _ q => q
  | .int i, Z, px, cm, C, X, h => snt_no fun _ _ _ q => q
  | .str s, Z, px, cm, C, X, h => snt_no fun _ _ _ q => q
  | .glob g, Z, px, cm, C, X, h => snt_no fun _ _ _ q => q
  | .op2 o a b, Z, px, cm, C, X, h => snt_no fun _ _ _ q => q
  | .neg a, Z, px, cm, C, X, h => snt_no fun _ _ _ q => q
  | .ife t a b, Z, px, cm, C, X, h => snt_no fun _ _ _ q => q
  | .tup es, Z, px, cm, C, X, h => snt_no fun _ _ _ q => q
  | .lst es, Z, px, cm, C, X, h => snt_no fun _ _ _ q => q
  | .slc a lo hi, Z, px, cm, C, X, h => snt_no fun _ _ _ q => q
  | .rev a, Z, px, cm, C, X, h => snt_no fun _ _ _ q => q
  | .sm f a e, Z, px, cm, C, X, h => snt_no fun _ _ _ q => q
  | .comp own elt p it c, Z, px, cm, C, X, h => snt_no fun _ _ _ q => q
  | .comp2 own own1 elt p it c p1 it1 c1, Z, px, cm, C, X, h => snt_no fun _ _ _ q => q
  | .sset f e, Z, px, cm, C, X, h => snt_no fun _ _ _ q => q
  | .bx e, Z, px, cm, C, X, h => snt_no fun _ _ _ q => q
  | .ssc f ki own elt p it c, Z, px, cm, C, X, h => snt_no fun _ _ _ q => q
  | .xfld i f, Z, px, cm, C, X, h => snt_no fun _ _ _ q => q
  | .fst es, Z, px, cm, C, X, h => snt_no fun _ _ _ q => q
  | .mth f a es, Z, px, cm, C, X, h => snt_no fun _ _ _ q => q
  | .lrg a, Z, px, cm, C, X, h => snt_no fun _ _ _ q => q
  | .fld a f, Z, px, cm, C, X, h => snt_no fun _ _ _ q => q
  | .make f es, Z, px, cm, C, X, h => snt_no fun _ _ _ q => q
  | .meth f c a es cs, Z, px, cm, C, X, h => snt_plain (w := fun σ m Q => wpE Φ gv cm (.meth f c a es cs) σ m Q (px.at σ)) (c := cE cst a + (cEs cst es + cst f)) h pT_meth (snd_meth h f c cs (sndE a Z px cm C X h) (sndEs es Z px cm C X h) mEs_nil) fun _ _ _ q => q
  | .inD neg a b, Z, px, cm, C, X, h => snt_inD h neg (sndE a Z px cm C X h) (sndE b Z px cm C X h)
  | .xis i c, Z, px, cm, C, X, h => snt_plain (w := fun σ m Q => wpE Φ gv cm (.xis i c) σ m Q (px.at σ)) (c := 0) h pT_xis (snd_xis h i c) fun σ m Q q => by
    obtain ⟨c', fs, e1, q⟩ := q
    exact ⟨c', fs, e1, _, rfl, q⟩
  | .callx f i, Z, px, cm, C, X, h => snt_plain (w := fun σ m Q => wpE Φ gv cm (.callx f i) σ m Q (px.at σ)) (c := cst f) h pT_callx (snd_callx h f i) fun _ _ _ q => q
theorem sndEs : ∀ (es : Es) (Z : Zs G) (px : PxE) (cm : Bool) (C : Ct) (X : Cx), XOk Z px cm cst Φ gv k C X → OkA Z X (mEs es C) (fun σ m Q => wpEs Φ gv cm es σ m Q (px.at σ)) (cEs cst es)
  | .nil, Z, px, cm, C, X, h => sna_nil
  | .cons e r, Z, px, cm, C, X, h => sna_cons (sndE e Z px cm C X h) (sndEs r Z px cm C X h)
theorem sndFs : ∀ (es : Es) (Z : Zs G) (px : PxE) (cm : Bool) (C : Ct) (X : Cx), XOk Z px cm cst Φ gv k C X → OkF Z X (mFs es C) (fun acc σ m Q => wpFs Φ gv cm es acc σ m Q (px.at σ)) (cEs cst es)
  | .nil, Z, px, cm, C, X, h => snf_nil
  | .cons e r, Z, px, cm, C, X, h => snf_cons (sndE e Z px cm C X h) (sndFs r Z px cm C X h)
theorem sndEo : ∀ (es : Eo) (Z : Zs G) (px : PxE) (cm : Bool) (C : Ct) (X : Cx), XOk Z px cm cst Φ gv k C X → OkO Z X (mEo es C) (fun σ m Q => wpEo Φ gv cm es σ m Q (px.at σ)) (cEo cst es)
  | .none, Z, px, cm, C, X, h => sno_none
  | .some e, Z, px, cm, C, X, h => sno_some (sndE e Z px cm C X h)
theorem sndTo : ∀ (es : Eo) (Z : Zs G) (px : PxE) (cm : Bool) (C : Ct) (X : Cx), XOk Z px cm cst Φ gv k C X → OkTs Z X (mTo es C) (fun σ m Q => wpTo Φ gv cm es σ m Q (px.at σ)) (cEo cst es)
  | .none, Z, px, cm, C, X, h => snts_none
  | .some e, Z, px, cm, C, X, h => snts_some (sndT e Z px cm C X h)
theorem sndIt : ∀ (it : It) (Z : Zs G) (px : PxE) (cm : Bool) (C : Ct) (X : Cx), XOk Z px cm cst Φ gv k C X → OkI Z X (mIt it C) (fun σ m Q => wpIt Φ gv cm it σ m Q (px.at σ)) (cIt cst it)
  | .seq e, Z, px, cm, C, X, h => sni_seq h (sndE e Z px cm C X h)
  | .rng e, Z, px, cm, C, X, h => sni_rng h (sndE e Z px cm C X h)
  | .rng2 e e2, Z, px, cm, C, X, h => sni_rng2 h (sndE e Z px cm C X h) (sndE e2 Z px cm C X h)
  | .enm e, Z, px, cm, C, X, h => sni_enm h (sndE e Z px cm C X h)
  | .en1 e, Z, px, cm, C, X, h => sni_en1 h (sndE e Z px cm C X h)
  | .zip e e2, Z, px, cm, C, X, h => sni_zip h (sndE e Z px cm C X h) (sndE e2 Z px cm C X h)
end
end
end Pk

/-! Statements: the look, the cost, soundness. -/
namespace Pk
open PySem L2
def isLc : Expr → Bool
  | .ListComp .. => true
  | _ => false
def notDoc : Expr → Bool
  | .Constant .. => false
  | _ => true
mutual
def cS (cst : Nat → Nat) : S → Nat
  | .asg _ e => cE cst e
  | .box _ e => cE cst e
  | .aug _ _ e => cE cst e
  | .ex e => cE cst e
  | .ite t a b => cE cst t + (cSs cst a + cSs cst b)
  | .forr _ it b => cIt cst it + line * cSs cst b
  | .whil t b => line * (cE cst t + cSs cst b)
  | .ret e => cE cst e
  | .ret0 => 0
  | .pass => 0
  | .app a e => cE cst a + cE cst e
  | .frz _ => 0
  | .par _ _ a b => cE cst a + cE cst b
  | .asgc _ e => cE cst e
  | .raise _ _ es => cEs cst es
  | .tryx b h => cSs cst b + cHs cst h
  | .star _ _ e => cE cst e
  | .unl _ e => cE cst e
  | .seti a i e => cE cst e + (cE cst a + cE cst i)
  | .swp _ _ _ => 0
def cSs (cst : Nat → Nat) : Ss → Nat
  | .nil => 0
  | .cons s r => cS cst s + cSs cst r
def cHs (cst : Nat → Nat) : Hs → Nat
  | .nil => 0
  | .cons _ _ b r => cSs cst b + cHs cst r
end
abbrev LkS := Stmt → Bool
def isEs : E → Bool
  | .lst _ => true
  | _ => false
def mAsgN (C : Ct) (i : Nat) (e : Lk) : LkS
  | .Assign [.Name x px] pe pos => decide (C.N[i]? = some x) && locB C x && notComp pe && e pe
  | _ => false
/-- a comprehension stored on its own line goes another way -/
def mAsgC (C : Ct) (i : Nat) (own : List Nat) (elt : Scope → Lk) (p : Pt) (it : Expr → Lk) (c : Scope → List Expr → Bool) : LkS
  | .Assign [.Name x px] (.ListComp pelt [⟨pp, pit, pifs, 0⟩] scope pos) _ => decide (C.N[i]? = some x) && ((decide (C.sc.names.lookup x = some .local) && (px.line == pos.line) && !(scope.names.any fun (n, k) => n == x && (k == .local || k == .cell))) || (decide (C.sc.names.lookup x = some .cell) && C.fn x))
      && L2.blkC C.N C.sc scope (ownN C.N own) && notSet pit && ptIn own p && it pp pit && mPt (C.blk scope) p pp && elt scope pelt && c scope pifs
  | _ => false
/-- .. with two fors -/
def mAsgC2 (C : Ct) (i : Nat) (own own1 : List Nat) (elt : Scope → Lk) (p : Pt) (it : Expr → Lk) (c : Scope → List Expr → Bool) (p1 : Pt) (it1 : Scope → Expr → Lk) (c1 : Scope → List Expr → Bool) : LkS
  | .Assign [.Name x px] (.ListComp pelt [⟨pp, pit, pifs, 0⟩, ⟨pp1, pit1, pifs1, 0⟩] scope pos) _ => decide (C.N[i]? = some x) && ((decide (C.sc.names.lookup x = some .local) && (px.line == pos.line) && !(scope.names.any fun (n, k) => n == x && (k == .local || k == .cell))) || (decide (C.sc.names.lookup x = some .cell) && C.fn x))
      && L2.blkC C.N C.sc scope (ownN C.N own) && notSet pit && notSet pit1 && ptIn own p && ptIn own1 p1 && own1.all (fun i => own.contains i) && it pp pit && mPt (C.blk scope) p pp && elt scope pelt && c scope pifs
      && it1 scope pp1 pit1 && mPt (C.blk scope) p1 pp1 && c1 scope pifs1
  | _ => false
def mAsgT (p : Lk) (e : Lk) : LkS
  | .Assign [.Tuple ts kk tp] pe pos => p (.Tuple ts kk tp) && e pe && notComp pe && !isTupX pe
  | _ => false
def mPar (C : Ct) (i j : Nat) (a b : Lk) : LkS
  | .Assign [.Tuple [.Name x px, .Name y py] _ pt] (.Tuple [pa, pb] _ _) pos => decide (C.N[i]? = some x) && decide (C.N[j]? = some y) && !(decide (i = j)) && decide (C.sc.names.lookup x = some .local) && decide (C.sc.names.lookup y = some .local)
      && (px.line == py.line) && !(foldedForSure 8 pa && foldedForSure 8 pb) && !(constantsAlone 8 pa && constantsAlone 8 pb) && notStar pa && notStar pb && a pa && b pb
  | _ => false
def mAug (C : Ct) (i : Nat) (o : O2) (e : Lk) : LkS
  | .AugAssign (.Name x px) po pe pos => decide (C.N[i]? = some x) && locB C x && decide (opP o = po) && decide (o = .add ∨ o = .sub ∨ o = .bor) && e pe
  | _ => false
def mEx (e : Lk) : LkS
  | .Expr pe _ => e pe && notComp pe
  | _ => false
def mIte (t : Lk) (a b : List Stmt → Bool) : LkS
  | .If pt pa pb _ => t pt && a pa && b pb
  | _ => false
def mFor (p : Lk) (it : Expr → Lk) (b : List Stmt → Bool) : LkS
  | .For pp pit pb [] _ => notSet pit && it pp pit && p pp && b pb
  | _ => false
def mWhl (t : Lk) (b : List Stmt → Bool) : LkS
  | .While pt pb [] _ => t pt && b pb
  | _ => false
def mRet (e : Lk) : LkS
  | .Return (some pe) _ => e pe
  | _ => false
def mRet0 : LkS
  | .Return none _ => true
  | _ => false
def mPass : LkS
  | .Pass _ => true
  | _ => false
def mSeti (a i e : Lk) : LkS
  | .Assign [.Subscript pa pi _] pe _ => a pa && notSlice pi && i pi && notComp pe && e pe
  | _ => false
/-- v[i], v[j] = v[j], v[i] -/
def mSwp (v i j : Lk) : LkS
  | .Assign [.Tuple [.Subscript v1 i1 _, .Subscript v2 j1 _] _ _] (.Tuple [.Subscript v3 j2 _, .Subscript v4 i2 _] _ _) _ => v v1 && v v2 && v v3 && v v4 && i i1 && i i2 && j j1 && j j2 && notSlice i1 && notSlice j1 && notSlice i2 && notSlice j2
  | _ => false
def mApp (a e : Lk) : LkS
  | .Expr (.Call (.Attribute pa x apos) [p] [] pos) _ => decide (x = "append") && decide (apos.endLine = pos.line) && notCall pa && notStar p && a pa && e p
  | _ => false
def isStrEs : Es → Bool
  | .cons (.str _) .nil => true
  | _ => false
def isCStr : Expr → Bool
  | .Constant (.str _) _ _ => true
  | _ => false
/-- raise C(e) -/
def mRaise (C : Ct) (c : Nat) (fo : Option Nat) (es : List Expr → Bool) : LkS
  | .Raise (some (.Call (.Name x _) [p] [] _)) none _ => decide (C.xc c = some (x, fo)) && glB C.sc x && notStar p && es [p] && (fo.isSome || isCStr p)
  | _ => false
def mTry (b : List Stmt → Bool) (h : List ExceptHandler → Bool) : LkS
  | .Try pb (h0 :: hs) [] [] _ => b pb && h (h0 :: hs)
  | _ => false
/-- the name of a clause -/
def mNm (C : Ct) : Option Nat → Option Str → Bool
  | none, none => true
  | some i, some n => decide (C.N[i]? = some n) && decide (C.sc.names.lookup n = some .local)
  | _, _ => false
def mH (C : Ct) (c : Nat) (i : Option Nat) (b : List Stmt → Bool) : ExceptHandler → Bool
  | .ExceptHandler (some (.Name x _)) nt (s0 :: ss) _ => decide (C.xn c = some x) && glB C.sc x && mNm C i nt && b (s0 :: ss)
  | _ => false
/-- names, then what is left -/
def mNs (C : Ct) (l : List Expr → Bool) : List Nat → List Expr → Bool
  | [], es => l es
  | i :: is, .Name x _ :: es => decide (C.N[i]? = some x) && locB C x && mNs C l is es
  | _, _ => false
def mStarE (C : Ct) (r : Nat) : List Expr → Bool
  | [.Starred (.Name x _) _] => decide (C.N[r]? = some x) && locB C x
  | _ => false
def mUnp (l : List Expr → Bool) (e : Lk) : LkS
  | .Assign [.Tuple ts _ _] pe _ => l ts && e pe && notComp pe && !isTupX pe
  | _ => false
def isFrz : S → Option Nat
  | .frz i => some i
  | _ => none
mutual
def mS : S → Ct → LkS
  | .asg (.nm i) e, C => mAsgN C i (mE e C)
  | .asg (.tp ps) e, C => mAsgT (mPt C (.tp ps)) (mE e C)
  | .asg (.tl _) _, _ => fun _ => false
  | .box i (.comp own elt p it c), C => mAsgC C i own (fun sc => mE elt (C.blk sc)) p (mIt it C) (fun sc => mTo c (C.blk sc))
  | .box i (.sm .split a e), C => mAsgN C i (mSm .split (mE a C) (mE e C))
  | .box i e, C => fun s => isEs e && mAsgN C i (mE e C) s
  | .aug i o e, C => mAug C i o (mE e C)
  | .ex e, C => mEx (mE e C)
  | .ite t a b, C => mIte (mE t C) (mSs a C) (mSs b C)
  | .forr p it b, C => mFor (mPt C p) (mIt it C) (mSs b C)
  | .whil t b, C => mWhl (mE t C) (mSs b C)
  | .ret e, C => mRet (mE e C)
  | .ret0, _ => mRet0
  | .pass, _ => mPass
  | .app a e, C => mApp (mE a C) (mE e C)
  | .frz _, _ => fun _ => false
  | .par i j a b, C => mPar C i j (mE a C) (mE b C)
  | .asgc i (.comp own elt p it c), C => mAsgC C i own (fun sc => mE elt (C.blk sc)) p (mIt it C) (fun sc => mTo c (C.blk sc))
  | .asgc i (.comp2 own own1 elt p it c p1 it1 c1), C => mAsgC2 C i own own1 (fun sc => mE elt (C.blk sc)) p (mIt it C) (fun sc => mTo c (C.blk sc)) p1 (fun sc => mIt it1 (C.blk sc)) (fun sc => mTo c1 (C.blk sc))
  | .asgc _ _, _ => fun _ => false
  | .raise c fo es, C => fun s => (fo.isSome || isStrEs es) && mRaise C c fo (mEs es C) s
  | .tryx b h, C => mTry (mSs b C) (mHs h C)
  | .star is r e, C => mUnp (mNs C (mStarE C r) is) (mE e C)
  | .unl is e, C => mUnp (mNs C (fun es => es.isEmpty) is) (mE e C)
  | .seti a i e, C => mSeti (mE a C) (mE i C) (mE e C)
  | .swp v i j, C => mSwp (mVar C v) (mVar C i) (mVar C j)
def mSs : Ss → Ct → List Stmt → Bool
  | .nil, _ => fun ps => ps.isEmpty
  | .cons s r, C => fun ps => match isFrz s with
    | some _ => mSs r C ps
    | none => match ps with
      | [] => false
      | p :: ps => mS s C p && mSs r C ps
def mHs : Hs → Ct → List ExceptHandler → Bool
  | .nil, _ => fun ps => ps.isEmpty
  | .cons c i b r, C => fun ps => match ps with
    | [] => false
    | p :: ps => mH C c i (mSs b C) p && mHs r C ps
end
/-! ### soundness -/
abbrev Ws := Env → Mu → (Env → Mu → Prop) → (D → Mu → Prop) → Prop
def kt (px : PxE) (nx : Env → Mu → Prop) (rt : D → Mu → Prop) : Kt := ⟨nx, rt, px⟩
def tS {G : Gs} (Z : Zs G) (w : Ws) (c : Nat) : TS := fun Dn s H => ∃ (W : Kn) (m : Mu) (σ : Env) (nx : Env → Mu → Prop) (rt : D → Mu → Prop), w σ m nx rt ∧ SRel Z W m H ∧ SlotR Z W σ s ∧ W.n + c ≤ Z.lim ∧
  (∀ σ' m' s' H' W', Step W m H W' m' H' c → SRel Z W' m' H' → SlotR Z W' σ' s' → nx σ' m' → Dn.nx s' H') ∧
  (∀ d m' v H' W', Step W m H W' m' H' c → SRel Z W' m' H' → Rep G W' v d → rt d m' → Dn.rt v H')
theorem PS.of {X : Cx} {e : Stmt} {t t' : TS} (h : PS X e t) (i : ∀ Dn s H, t' Dn s H → t Dn s H) : PS X e t' := ⟨fun pins s σ H Q I q => h.run pins s σ H Q I (i _ _ _ q)⟩
theorem PSs.of {X : Cx} {e : List Stmt} {t t' : TS} (h : PSs X e t) (i : ∀ Dn s H, t' Dn s H → t Dn s H) : PSs X e t' := ⟨fun pins s σ H Q I q => h.run pins s σ H Q I (i _ _ _ q)⟩
abbrev OkS {G : Gs} (Z : Zs G) (X : Cx) (l : LkS) (w : Ws) (c : Nat) : Prop := ∀ st, l st = true → PS X st (tS Z w c)
abbrev OkSs {G : Gs} (Z : Zs G) (X : Cx) (l : List Stmt → Bool) (w : Ws) (c : Nat) : Prop := ∀ sts, l sts = true → PSs X sts (tS Z w c)
section
variable {G : Gs} {Z : Zs G} {px : PxE} {cm : Bool} {cst : Nat → Nat} {Φ : Fs} {gv : Nat → D} {k : Nat} {C : Ct} {X : Cx}
abbrev wS (Φ : Fs) (gv : Nat → D) (cm : Bool) (px : PxE) (s : S) : Ws := fun σ m nx rt => wpS Φ gv cm s σ m (kt px nx rt)
abbrev wSs (Φ : Fs) (gv : Nat → D) (cm : Bool) (px : PxE) (s : Ss) : Ws := fun σ m nx rt => wpSs Φ gv cm s σ m (kt px nx rt)
theorem loc_of {x : Str} (h : XOk Z px cm cst Φ gv k C X) (l : locB C x = true) : L2.Loc X.env.scope x ∧ (X.fn x = true ∨ X.env.scope.names.lookup x = some .local) := by
  rw [h.sc]
  unfold locB at l
  unfold L2.Loc
  cases e : C.sc.names.lookup x with
  | none => rw [e] at l; cases l
  | some z =>
    rw [e] at l
    cases z <;> first | (cases l; done) | skip
    · exact ⟨.inl rfl, .inr rfl⟩
    · exact ⟨.inr rfl, .inl (h.fn x l)⟩
theorem swap_none {pe : Expr} {t : Option Expr} {l : Nat} {env : PySem.Env} (h : notComp pe = true) : swapsWith pe t l env = pure false := by
  cases pe <;> first | rfl | cases h
theorem asg_imp {i : Nat} {e : E} {Dn : Ends} {s : St} {H : Hp} (q : tS Z (wS Φ gv cm px (.asg (.nm i) e)) (cE cst e) Dn s H) : tAsg (tE Z (fun σ m Q => wpE Φ gv cm e σ m Q (px.at σ)) (cE cst e)) (gName i) Dn s H := by
  obtain ⟨W, m, σ, nx, rt, hw, S, L, hn, kn, kr⟩ := q
  refine ⟨W, m, σ, _, hw.2, S, L, hn, fun d m1 v H1 W1 st1 S1 r q1 => ?_⟩
  obtain ⟨σ', e1, q1⟩ := q1
  cases e1
  exact kn _ m1 _ H1 W1 st1 S1 ((L.mono st1.le).set r) q1
theorem snd_asgN (h : XOk Z px cm cst Φ gv k C X) (i : Nat) {e : E} {le : Lk} (he : OkP Z X le (fun σ m Q => wpE Φ gv cm e σ m Q (px.at σ)) (cE cst e)) :
    OkS Z X (mAsgN C i le) (wS Φ gv cm px (.asg (.nm i) e)) (cE cst e) := by
  intro st hm
  unfold mAsgN at hm
  split at hm
  · rename_i x px pe pos
    simp only [Bool.and_eq_true, decide_eq_true_eq] at hm
    obtain ⟨⟨⟨h1, h2⟩, h4⟩, h3⟩ := hm
    obtain ⟨l1, l2⟩ := loc_of h h2
    have hNd : X.N.Nodup := by rw [h.N]; exact h.nd
    have hNi : X.N[i]? = some x := by rw [h.N]; exact h1
    exact PS.of (ps_set hNd hNi l1 (he _ h3) (swap_none h4) l2) fun Dn s H q => asg_imp q
  · cases hm
theorem comp_imp (hxs : cm = true → Z.xs = none) {own : List Nat} {p : Pt} {it : It} {elt : E} {c : Eo} (h3 : ptIn own p = true) {s : List (Option V)} {H : Hp} {QV : VK} (q : tE Z (fun σ m Q => wpE Φ gv cm (.comp own elt p it c) σ m Q (px.at σ)) (cIt cst it + line * (cEo cst c + cE cst elt)) s H QV) :
    tLc (tI Z (fun σ m Q => wpIt Φ gv cm it σ m Q (px.at σ)) (cIt cst it)) (tGp Z.triv p) (tT Z.triv (fun σ m Q => wpTo Φ gv cm c σ m Q (pF.at σ)) (cEo cst c)) (tE Z.triv (fun σ m Q => wpE Φ gv cm elt σ m Q (pF.at σ)) (cE cst elt)) own s H QV := by
  obtain ⟨W, m, σ, Q, hw, S, L, hn, kq⟩ := q
  refine ⟨W, m, σ, _, hw.2, S, L, by omega, fun items gs m1 H1 W1 J st1 S1 wk hlen q1 => ?_⟩
  intro D hD
  exact comp_turns h3 st1 S1.toSRel0 ((L.mono st1.le).triv (hxs hw.1)) wk hlen hD hn q1 fun d m' v H' W' st S' r q => kq d m' v H' W' st (S.step S' st) r q
/-- .. as a box -/
theorem comp_impB (hxs : cm = true → Z.xs = none) {own : List Nat} {p : Pt} {it : It} {elt : E} {c : Eo} (h3 : ptIn own p = true) {s : List (Option V)} {H : Hp} {QV : VK} {W : Kn} {m : Mu} {σ : Env} {Q : List D → Mu → Prop}
    (hw : wpE Φ gv cm (.comp own elt p it c) σ m (fun d m1 => match d with | .lst ds => Q ds m1 | _ => False) (px.at σ)) (S : SRel Z W m H) (L : SlotR Z W σ s) (hn : W.n + (cIt cst it + line * (cEo cst c + cE cst elt)) ≤ Z.lim)
    (kq : ∀ acc m' a H' W', m' a = Option.none → Step W m H W' (mup m' a (some (.lst acc))) H' (cIt cst it + line * (cEo cst c + cE cst elt)) → SRel Z W' (mup m' a (some (.lst acc))) H' → Q acc m' → QV (.ref a) H') :
    tLc (tI Z (fun σ m Q => wpIt Φ gv cm it σ m Q (px.at σ)) (cIt cst it)) (tGp Z.triv p) (tT Z.triv (fun σ m Q => wpTo Φ gv cm c σ m Q (pF.at σ)) (cEo cst c)) (tE Z.triv (fun σ m Q => wpE Φ gv cm elt σ m Q (pF.at σ)) (cE cst elt)) own s H QV := by
  refine ⟨W, m, σ, _, hw.2, S, L, by omega, fun items gs m1 H1 W1 J st1 S1 wk hlen q1 => ?_⟩
  intro D hD
  exact comp_turnsB (Q := Q) h3 st1 S1.toSRel0 ((L.mono st1.le).triv (hxs hw.1)) wk hlen hD hn q1 fun acc m' a H' W' e st S' q => kq acc m' a H' W' e st (S.step S' st) q
theorem ps_no {st : Stmt} {w : Ws} {c : Nat} (hw : ∀ σ m nx rt, w σ m nx rt → False) : PS X st (tS Z w c) := ⟨fun pins s σ H D I q => by
  obtain ⟨W, m, σ, nx, rt, h, _⟩ := q
  exact (hw _ _ _ _ h).elim⟩
theorem snd_asgC (h : XOk Z px cm cst Φ gv k C X) (hb : X.env.blockKind = .function) (i : Nat) (own : List Nat) {elt : E} (p : Pt) {it : It} {c : Eo} :
    OkS Z X (mAsgC C i own (fun sc => mE elt (C.blk sc)) p (mIt it C) (fun sc => mTo c (C.blk sc))) (wS Φ gv cm px (.asgc i (.comp own elt p it c))) (cE cst (.comp own elt p it c)) := by
  intro st hm
  rcases bool_cases cm with hcm | hcm
  case inr =>
    refine ps_no fun σ m nx rt hw => ?_
    have := hw.1
    rw [hcm] at this
    cases this
  unfold mAsgC at hm
  split at hm
  · rename_i x px' pelt pp pit pifs scope pos spos
    simp only [Bool.and_eq_true, Bool.or_eq_true, decide_eq_true_eq] at hm
    obtain ⟨⟨⟨⟨⟨⟨⟨⟨g1, g0⟩, h1⟩, h2⟩, h3⟩, h4⟩, h5⟩, h6⟩, h7⟩ := hm
    have hblk : L2.BlkOk X.N X.env.scope scope (ownN C.N own) := by
      rw [h.N, h.sc]
      exact L2.blkOk_by h1
    rcases g0 with ⟨⟨g2, g3⟩, g4⟩ | g0
    · skip
      have hl : X.env.scope.names.lookup x = some .local := by rw [h.sc]; exact g2
      have hsw : swapsWith (.ListComp pelt [⟨pp, pit, pifs, 0⟩] scope pos) (some (.Name x px')) spos.line X.env = pure true := by
        show (pure (X.env.blockKind == .function && X.env.kindOf x == some .local && px'.line == pos.line && !(scope.names.any fun (n, k) => n == x && (k == .local || k == .cell))) : Sem Bool) = pure true
        have e1 : X.env.kindOf x = some .local := hl
        rw [hb, e1, g3, g4]
        rfl
      have hps := ps_setLc (py := px') (pos := pos) (spos := spos) (h.calm hcm) (by rw [h.N]; exact h.nd) (by rw [h.N]; exact g1) hl hsw (sndIt it Z px cm C X h _ _ h4) hblk (fun s H D cl fp => snd_pt (h.blk s H scope D cl fp hcm) p pp (ptB_of hcm) h5) (fun s H D cl fp => sndTo c _ _ _ (C.blk scope) _ (h.blk s H scope D cl fp hcm) pifs h7)
        (fun s H D cl fp => sndE elt _ _ _ (C.blk scope) _ (h.blk s H scope D cl fp hcm) pelt h6) (foldedSet_of h2 _)
      rw [own_snd] at hps
      refine PS.of hps ?_
      intro Dn s H q
      refine comp_imp (px := px) (cm := cm) h.xs0 h3 ?_
      obtain ⟨W, m, σ, nx, rt, hw, S, L, hn, kn, kr⟩ := q
      exact ⟨W, m, σ, fun d m1 => nx (σ.set i d) m1, hw, S, L, hn, fun d m1 v H1 W1 st1 S1 r q1 => kn _ m1 _ H1 W1 st1 S1 ((L.mono st1.le).set r) q1⟩
    · skip
      have hNd : X.N.Nodup := by rw [h.N]; exact h.nd
      have hNi : X.N[i]? = some x := by rw [h.N]; exact g1
      have hl : X.env.scope.names.lookup x = some .cell := by rw [h.sc]; exact g0.1
      have hsw : swapsWith (.ListComp pelt [⟨pp, pit, pifs, 0⟩] scope pos) (some (.Name x px')) spos.line X.env = pure false := by
        show (pure (X.env.blockKind == .function && X.env.kindOf x == some .local && px'.line == pos.line && !(scope.names.any fun (n, k) => n == x && (k == .local || k == .cell))) : Sem Bool) = pure false
        have e1 : X.env.kindOf x = some .cell := hl
        rw [hb, e1]
        rfl
      have hpe := pe_lc (pos := pos) (h.calm hcm) hNd (sndIt it Z px cm C X h _ _ h4) hblk (fun s H D cl fp => snd_pt (h.blk s H scope D cl fp hcm) p pp (ptB_of hcm) h5) (fun s H D cl fp => sndTo c _ _ _ (C.blk scope) _ (h.blk s H scope D cl fp hcm) pifs h7)
        (fun s H D cl fp => sndE elt _ _ _ (C.blk scope) _ (h.blk s H scope D cl fp hcm) pelt h6) (foldedSet_of h2 _)
      rw [own_snd] at hpe
      refine PS.of (ps_set hNd hNi (.inr hl) hpe hsw (.inl (h.fn x g0.2))) ?_
      intro Dn s H q
      refine comp_imp (px := px) (cm := cm) h.xs0 h3 ?_
      obtain ⟨W, m, σ, nx, rt, hw, S, L, hn, kn, kr⟩ := q
      exact ⟨W, m, σ, fun d m1 => nx (σ.set i d) m1, hw, S, L, hn, fun d m1 v H1 W1 st1 S1 r q1 => kn _ m1 _ H1 W1 st1 S1 ((L.mono st1.le).set r) q1⟩
  · cases hm
theorem snd_asgC2 (h : XOk Z px cm cst Φ gv k C X) (hb : X.env.blockKind = .function) (i : Nat) (own own1 : List Nat) {elt : E} (p p1 : Pt) {it it1 : It} {c c1 : Eo} :
    OkS Z X (mAsgC2 C i own own1 (fun sc => mE elt (C.blk sc)) p (mIt it C) (fun sc => mTo c (C.blk sc)) p1 (fun sc => mIt it1 (C.blk sc)) (fun sc => mTo c1 (C.blk sc))) (wS Φ gv cm px (.asgc i (.comp2 own own1 elt p it c p1 it1 c1))) (cE cst (.comp2 own own1 elt p it c p1 it1 c1)) := by
  intro st hm
  rcases bool_cases cm with hcm | hcm
  case inr =>
    refine ps_no fun σ m nx rt hw => ?_
    have := hw.1
    rw [hcm] at this
    cases this
  unfold mAsgC2 at hm
  split at hm
  · rename_i x px' pelt pp pit pifs pp1 pit1 pifs1 scope pos spos
    simp only [Bool.and_eq_true, Bool.or_eq_true, decide_eq_true_eq] at hm
    obtain ⟨⟨⟨⟨⟨⟨⟨⟨⟨⟨⟨⟨⟨⟨g1, g0⟩, h1⟩, h2⟩, h2b⟩, h3⟩, h3b⟩, h3c⟩, h4⟩, h5⟩, h6⟩, h7⟩, h8⟩, h9⟩, h10⟩ := hm
    have hblk : L2.BlkOk X.N X.env.scope scope (ownN C.N own) := by
      rw [h.N, h.sc]
      exact L2.blkOk_by h1
    have hNd : X.N.Nodup := by rw [h.N]; exact h.nd
    have hNi : X.N[i]? = some x := by rw [h.N]; exact g1
    have imp : ∀ (Dn : Ends) (s : St) (H : Hp), tS Z (wS Φ gv cm px (.asgc i (.comp2 own own1 elt p it c p1 it1 c1))) (cE cst (.comp2 own own1 elt p it c p1 it1 c1)) Dn s H →
        tAsg (tLc2 (tI Z (fun σ m Q => wpIt Φ gv cm it σ m Q (px.at σ)) (cIt cst it)) (tGp Z.triv p) (tT Z.triv (fun σ m Q => wpTo Φ gv cm c σ m Q (pF.at σ)) (cEo cst c)) (tI Z.triv (fun σ m Q => wpIt Φ gv cm it1 σ m Q (pF.at σ)) (cIt cst it1)) (tGp Z.triv p1)
          (tT Z.triv (fun σ m Q => wpTo Φ gv cm c1 σ m Q (pF.at σ)) (cEo cst c1)) (tE Z.triv (fun σ m Q => wpE Φ gv cm elt σ m Q (pF.at σ)) (cE cst elt)) own own1) (gName i) Dn s H := by
      intro Dn s H q
      refine comp2_imp (px := px) (cm := cm) h.xs0 h3 h3b ?_
      obtain ⟨W, m, σ, nx, rt, hw, S, L, hn, kn, kr⟩ := q
      exact ⟨W, m, σ, fun d m1 => nx (σ.set i d) m1, hw, S, L, hn, fun d m1 v H1 W1 st1 S1 r q1 => kn _ m1 _ H1 W1 st1 S1 ((L.mono st1.le).set r) q1⟩
    have a1 := fun (s : Shared) (H : Hp) (A : Addr) (cl : List (Str × Addr)) (fp : List Addr) => snd_pt (h.blk s H scope A cl fp hcm) p pp (ptB_of hcm) h5
    have a2 := fun (s : Shared) (H : Hp) (A : Addr) (cl : List (Str × Addr)) (fp : List Addr) => sndTo c _ _ _ (C.blk scope) _ (h.blk s H scope A cl fp hcm) pifs h7
    have a3 := fun (s : Shared) (H : Hp) (A : Addr) (cl : List (Str × Addr)) (fp : List Addr) => sndIt it1 _ _ _ (C.blk scope) _ (h.blk s H scope A cl fp hcm) pp1 pit1 h8
    have a4 := fun (s : Shared) (H : Hp) (A : Addr) (cl : List (Str × Addr)) (fp : List Addr) => snd_pt (h.blk s H scope A cl fp hcm) p1 pp1 (ptB_of hcm) h9
    have a5 := fun (s : Shared) (H : Hp) (A : Addr) (cl : List (Str × Addr)) (fp : List Addr) => sndTo c1 _ _ _ (C.blk scope) _ (h.blk s H scope A cl fp hcm) pifs1 h10
    have a6 := fun (s : Shared) (H : Hp) (A : Addr) (cl : List (Str × Addr)) (fp : List Addr) => sndE elt _ _ _ (C.blk scope) _ (h.blk s H scope A cl fp hcm) pelt h6
    rcases g0 with ⟨⟨g2, g3⟩, g4⟩ | g0
    · have hl : X.env.scope.names.lookup x = some .local := by rw [h.sc]; exact g2
      have hsw : swapsWith (.ListComp pelt [⟨pp, pit, pifs, 0⟩, ⟨pp1, pit1, pifs1, 0⟩] scope pos) (some (.Name x px')) spos.line X.env = pure true := by
        show (pure (X.env.blockKind == .function && X.env.kindOf x == some .local && px'.line == pos.line && !(scope.names.any fun (n, k) => n == x && (k == .local || k == .cell))) : Sem Bool) = pure true
        have e1 : X.env.kindOf x = some .local := hl
        rw [hb, e1, g3, g4]
        rfl
      have hps := ps_setLc2 (py := px') (pos := pos) (spos := spos) (h.calm hcm) hNd hNi hl hsw (sndIt it Z px cm C X h _ _ h4) hblk (all_in h3c) a1 a2 a3 a4 a5 a6 (foldedSet_of h2 _) (fun env => foldedSet_of h2b env)
      rw [own_snd] at hps
      exact PS.of hps imp
    · have hl : X.env.scope.names.lookup x = some .cell := by rw [h.sc]; exact g0.1
      have hsw : swapsWith (.ListComp pelt [⟨pp, pit, pifs, 0⟩, ⟨pp1, pit1, pifs1, 0⟩] scope pos) (some (.Name x px')) spos.line X.env = pure false := by
        show (pure (X.env.blockKind == .function && X.env.kindOf x == some .local && px'.line == pos.line && !(scope.names.any fun (n, k) => n == x && (k == .local || k == .cell))) : Sem Bool) = pure false
        have e1 : X.env.kindOf x = some .cell := hl
        rw [hb, e1]
        rfl
      have hpe := pe_lc2 (pos := pos) (h.calm hcm) hNd (sndIt it Z px cm C X h _ _ h4) hblk (all_in h3c) a1 a2 a3 a4 a5 a6 (foldedSet_of h2 _) (fun env => foldedSet_of h2b env)
      rw [own_snd] at hpe
      exact PS.of (ps_set hNd hNi (.inr hl) hpe hsw (.inl (h.fn x g0.2))) imp
  · cases hm
theorem snd_boxC (h : XOk Z px cm cst Φ gv k C X) (hb : X.env.blockKind = .function) (i : Nat) (own : List Nat) {elt : E} (p : Pt) {it : It} {c : Eo} :
    OkS Z X (mAsgC C i own (fun sc => mE elt (C.blk sc)) p (mIt it C) (fun sc => mTo c (C.blk sc))) (wS Φ gv cm px (.box i (.comp own elt p it c))) (cE cst (.comp own elt p it c)) := by
  intro st hm
  rcases bool_cases cm with hcm | hcm
  case inr =>
    refine ps_no fun σ m nx rt hw => ?_
    have := hw.1
    rw [hcm] at this
    cases this
  unfold mAsgC at hm
  split at hm
  · rename_i x px' pelt pp pit pifs scope pos spos
    simp only [Bool.and_eq_true, Bool.or_eq_true, decide_eq_true_eq] at hm
    obtain ⟨⟨⟨⟨⟨⟨⟨⟨g1, g0⟩, h1⟩, h2⟩, h3⟩, h4⟩, h5⟩, h6⟩, h7⟩ := hm
    have hblk : L2.BlkOk X.N X.env.scope scope (ownN C.N own) := by
      rw [h.N, h.sc]
      exact L2.blkOk_by h1
    rcases g0 with ⟨⟨g2, g3⟩, g4⟩ | g0
    · skip
      have hl : X.env.scope.names.lookup x = some .local := by rw [h.sc]; exact g2
      have hsw : swapsWith (.ListComp pelt [⟨pp, pit, pifs, 0⟩] scope pos) (some (.Name x px')) spos.line X.env = pure true := by
        show (pure (X.env.blockKind == .function && X.env.kindOf x == some .local && px'.line == pos.line && !(scope.names.any fun (n, k) => n == x && (k == .local || k == .cell))) : Sem Bool) = pure true
        have e1 : X.env.kindOf x = some .local := hl
        rw [hb, e1, g3, g4]
        rfl
      have hps := ps_setLc (py := px') (pos := pos) (spos := spos) (h.calm hcm) (by rw [h.N]; exact h.nd) (by rw [h.N]; exact g1) hl hsw (sndIt it Z px cm C X h _ _ h4) hblk (fun s H D cl fp => snd_pt (h.blk s H scope D cl fp hcm) p pp (ptB_of hcm) h5) (fun s H D cl fp => sndTo c _ _ _ (C.blk scope) _ (h.blk s H scope D cl fp hcm) pifs h7)
        (fun s H D cl fp => sndE elt _ _ _ (C.blk scope) _ (h.blk s H scope D cl fp hcm) pelt h6) (foldedSet_of h2 _)
      rw [own_snd] at hps
      refine PS.of hps ?_
      intro Dn s H q
      obtain ⟨W, m, σ, nx, rt, hw, S, L, hn, kn, kr⟩ := q
      refine comp_impB (px := px) (cm := cm) h.xs0 h3 (Q := fun ds m1 => ∀ a, m1 a = Option.none → nx (σ.set i (.ref a)) (mup m1 a (some (.lst ds)))) hw S L hn ?_
      intro acc m' a H' W' e st1 S1 q1
      exact kn _ _ _ H' W' st1 S1 ((L.mono st1.le).set (.ref a)) (q1 a e)
    · skip
      have hNd : X.N.Nodup := by rw [h.N]; exact h.nd
      have hNi : X.N[i]? = some x := by rw [h.N]; exact g1
      have hl : X.env.scope.names.lookup x = some .cell := by rw [h.sc]; exact g0.1
      have hsw : swapsWith (.ListComp pelt [⟨pp, pit, pifs, 0⟩] scope pos) (some (.Name x px')) spos.line X.env = pure false := by
        show (pure (X.env.blockKind == .function && X.env.kindOf x == some .local && px'.line == pos.line && !(scope.names.any fun (n, k) => n == x && (k == .local || k == .cell))) : Sem Bool) = pure false
        have e1 : X.env.kindOf x = some .cell := hl
        rw [hb, e1]
        rfl
      have hpe := pe_lc (pos := pos) (h.calm hcm) hNd (sndIt it Z px cm C X h _ _ h4) hblk (fun s H D cl fp => snd_pt (h.blk s H scope D cl fp hcm) p pp (ptB_of hcm) h5) (fun s H D cl fp => sndTo c _ _ _ (C.blk scope) _ (h.blk s H scope D cl fp hcm) pifs h7)
        (fun s H D cl fp => sndE elt _ _ _ (C.blk scope) _ (h.blk s H scope D cl fp hcm) pelt h6) (foldedSet_of h2 _)
      rw [own_snd] at hpe
      refine PS.of (ps_set hNd hNi (.inr hl) hpe hsw (.inl (h.fn x g0.2))) ?_
      intro Dn s H q
      obtain ⟨W, m, σ, nx, rt, hw, S, L, hn, kn, kr⟩ := q
      refine comp_impB (px := px) (cm := cm) h.xs0 h3 (Q := fun ds m1 => ∀ a, m1 a = Option.none → nx (σ.set i (.ref a)) (mup m1 a (some (.lst ds)))) hw S L hn ?_
      intro acc m' a H' W' e st1 S1 q1
      exact kn _ _ _ H' W' st1 S1 ((L.mono st1.le).set (.ref a)) (q1 a e)
  · cases hm
theorem snd_asgT (h : XOk Z px cm cst Φ gv k C X) (ps : Pts) {e : E} {le : Lk} (he : OkP Z X le (fun σ m Q => wpE Φ gv cm e σ m Q (px.at σ)) (cE cst e)) :
    OkS Z X (mAsgT (mPt C (.tp ps)) le) (wS Φ gv cm px (.asg (.tp ps) e)) (cE cst e) := by
  intro st hm
  rcases bool_cases cm with hcm | hcm
  case inr =>
    refine ps_no fun σ m nx rt hw => ?_
    have : cm = true := hw.1
    rw [hcm] at this
    cases this
  unfold mAsgT at hm
  split at hm
  · rename_i ts kk tp pe pos
    simp only [Bool.and_eq_true, Bool.not_eq_true'] at hm
    obtain ⟨⟨⟨h1, h2⟩, h3⟩, h4⟩ := hm
    have hsw : swappedStores [.Tuple ts kk tp] pe X.env = pure none := by
      cases pe <;> first | rfl | cases h4
    have hs2 : swapsWithSole [.Tuple ts kk tp] pe pos.line X.env = pure false := swap_none (t := some (.Tuple ts kk tp)) (l := pos.line) (env := X.env) h3
    refine PS.of (ps_asg (he _ h2) (snd_pt h (.tp ps) _ hcm h1) hs2 hsw) ?_
    intro Dn s H q
    obtain ⟨W, m, σ, nx, rt, hw, S, L, hn, kn, kr⟩ := q
    refine ⟨W, m, σ, _, hw.2, S, L, hn, fun d m1 v H1 W1 st1 S1 r q1 => ?_⟩
    obtain ⟨σ', e1, q1⟩ := q1
    exact ⟨W1, m1, d, σ, σ', e1, S1, L.mono st1.le, r, fun s' L' _ => kn _ m1 _ H1 W1 st1 S1 L' q1⟩
  · cases hm
theorem snd_ex {e : E} {le : Lk} (he : OkP Z X le (fun σ m Q => wpE Φ gv cm e σ m Q (px.at σ)) (cE cst e)) : OkS Z X (mEx le) (wS Φ gv cm px (.ex e)) (cE cst e) := by
  intro st hm
  unfold mEx at hm
  split at hm
  · obtain ⟨h1, h2⟩ := Bool.and_eq_true_iff.mp hm
    refine PS.of (ps_expr (he _ h1) (swap_none h2)) ?_
    intro Dn s H q
    obtain ⟨W, m, σ, nx, rt, hw, S, L, hn, kn, kr⟩ := q
    exact ⟨W, m, σ, _, hw, S, L, hn, fun d m1 v H1 W1 st1 S1 r q1 => kn _ m1 _ H1 W1 st1 S1 (L.mono st1.le) q1⟩
  · cases hm
theorem snd_ret {e : E} {le : Lk} (he : OkP Z X le (fun σ m Q => wpE Φ gv cm e σ m Q (px.at σ)) (cE cst e)) : OkS Z X (mRet le) (wS Φ gv cm px (.ret e)) (cE cst e) := by
  intro st hm
  unfold mRet at hm
  split at hm
  · refine PS.of (ps_ret (he _ hm)) ?_
    intro Dn s H q
    obtain ⟨W, m, σ, nx, rt, hw, S, L, hn, kn, kr⟩ := q
    exact ⟨W, m, σ, _, hw, S, L, hn, fun d m1 v H1 W1 st1 S1 r q1 => kr _ m1 _ H1 W1 st1 S1 r q1⟩
  · cases hm
theorem snd_ret0 : OkS Z X mRet0 (wS Φ gv cm px .ret0) 0 := by
  intro st hm
  unfold mRet0 at hm
  split at hm
  · refine PS.of ps_retN ?_
    intro Dn s H q
    obtain ⟨W, m, σ, nx, rt, hw, S, L, hn, kn, kr⟩ := q
    exact kr _ m _ H W (Step.refl ..) S .non hw
  · cases hm
theorem snd_pass : OkS Z X mPass (wS Φ gv cm px .pass) 0 := by
  intro st hm
  unfold mPass at hm
  split at hm
  · refine PS.of ps_pass ?_
    intro Dn s H q
    obtain ⟨W, m, σ, nx, rt, hw, S, L, hn, kn, kr⟩ := q
    exact kn _ m _ H W (Step.refl ..) S L hw
  · cases hm
theorem snd_ite {t : E} {a b : Ss} {lt : Lk} {la lb : List Stmt → Bool} (ht : OkT Z X lt (fun σ m Q => wpT Φ gv cm t σ m Q (px.at σ)) (cE cst t)) (ha : OkSs Z X la (wSs Φ gv cm px a) (cSs cst a)) (hb : OkSs Z X lb (wSs Φ gv cm px b) (cSs cst b)) :
    OkS Z X (mIte lt la lb) (wS Φ gv cm px (.ite t a b)) (cE cst t + (cSs cst a + cSs cst b)) := by
  intro st hm
  unfold mIte at hm
  split at hm
  · simp only [Bool.and_eq_true] at hm
    obtain ⟨⟨h1, h2⟩, h3⟩ := hm
    refine PS.of (ps_if (ht _ h1) (ha _ h2) (hb _ h3)) ?_
    intro Dn s H q
    obtain ⟨W, m, σ, nx, rt, hw, S, L, hn, kn, kr⟩ := q
    refine ⟨W, m, σ, _, hw, S, L, by omega, fun d m1 H1 W1 st1 S1 q1 => ?_⟩
    have n1 := st1.n
    cases d with
    | true =>
      rw [if_pos rfl] at q1
      refine iteT ?_
      exact ⟨W1, m1, σ, nx, rt, q1, S1, L.mono st1.le, by omega, fun σ' m' s' H' W' st2 S2 L2' q => kn σ' m' s' H' W' ((Step.trans S1 st1 st2).weak (by omega)) S2 L2' q,
        fun d' m' v H' W' st2 S2 r q => kr d' m' v H' W' ((Step.trans S1 st1 st2).weak (by omega)) S2 r q⟩
    | false =>
      rw [if_neg Bool.false_ne_true] at q1
      refine iteF ?_
      exact ⟨W1, m1, σ, nx, rt, q1, S1, L.mono st1.le, by omega, fun σ' m' s' H' W' st2 S2 L2' q => kn σ' m' s' H' W' ((Step.trans S1 st1 st2).weak (by omega)) S2 L2' q,
        fun d' m' v H' W' st2 S2 r q => kr d' m' v H' W' ((Step.trans S1 st1 st2).weak (by omega)) S2 r q⟩
  · cases hm
theorem sns_nil : OkSs Z X (fun ps => ps.isEmpty) (wSs Φ gv cm px .nil) 0 := by
  intro sts hm
  cases sts with
  | nil =>
    refine PSs.of pss_nil ?_
    intro Dn s H q
    obtain ⟨W, m, σ, nx, rt, hw, S, L, hn, kn, kr⟩ := q
    exact kn _ m _ H W (Step.refl ..) S L hw
  | cons _ _ => cases hm
theorem sns_cons {a : S} {r : Ss} {la : LkS} {lr : List Stmt → Bool} (ha : OkS Z X la (wS Φ gv cm px a) (cS cst a)) (hr : OkSs Z X lr (wSs Φ gv cm px r) (cSs cst r)) : ∀ p ps, la p = true → lr ps = true → PSs X (p :: ps) (tS Z (wSs Φ gv cm px (.cons a r)) (cS cst a + cSs cst r)) := by
  intro p ps h1 h2
  refine PSs.of (pss_cons (ha _ h1) (hr _ h2)) ?_
  intro Dn s H q
  obtain ⟨W, m, σ, nx, rt, hw, S, L, hn, kn, kr⟩ := q
  refine ⟨W, m, σ, _, rt, hw, S, L, by omega, fun σ1 m1 s1 H1 W1 st1 S1 L1 q1 => ?_, fun d' m' v H' W' st2 S2 r q => kr d' m' v H' W' (st2.weak (by omega)) S2 r q⟩
  have n1 := st1.n
  exact ⟨W1, m1, σ1, nx, rt, q1, S1, L1, by omega, fun σ' m' s' H' W' st2 S2 L2' q => kn σ' m' s' H' W' (Step.trans S1 st1 st2) S2 L2' q,
    fun d' m' v H' W' st2 S2 r q => kr d' m' v H' W' (Step.trans S1 st1 st2) S2 r q⟩
end
end Pk

/-! raise, try: soundness. -/
namespace Pk
open PySem L2
section
variable {G : Gs} {W W' : Kn} {m m' : Mu} {H H' : Hp}
/-- an object that data does not name -/
theorem SRel0.ext {p : Addr} {o : HO} (S : SRel0 G W m H) (h : H p = .none) (ho : ∀ xs, o ≠ .lst xs ∧ o ≠ .tup xs ∧ ∀ u, o ≠ .frz u (.tup xs)) : SRel0 G W m (upd H p o) ∧ Step W m H W m (upd H p o) 0 := by
  have ne : ∀ {b : Addr} {u : HO}, H b = some u → b ≠ p := fun {b u} q z => by rw [z, h] at q; cases q
  obtain ⟨n1, n2, n3⟩ := S.none h
  refine ⟨⟨fun b u q => ?_, fun b u q => ?_, S.dj, fun t ht => ?_, S.drF, S.dri, S.drn, fun b xs q => ?_⟩, ⟨Kn.le.refl W, fun b u q _ _ => ?_, fun b u q k1 k2 _ => ⟨k1, k2⟩, fun _ _ _ q => q, fun b u q => ⟨u, ?_⟩, Nat.le_refl _⟩⟩
  · rw [upd_ne (ne (S.fz b u q))]
    exact S.fz b u q
  · obtain ⟨x, hx⟩ := (S.bx b u q).there
    exact (S.bx b u q).mono (Kn.le.refl W) (upd_ne (ne hx))
  · refine (S.dr t ht).same (fun b i => ?_) (Nat.le_refl _)
    obtain ⟨xs, e⟩ := (S.dr t ht).there i
    exact upd_ne (ne e)
  · by_cases hb : b = p
    · subst hb
      rw [upd_same] at q
      obtain ⟨o1, o2, o3⟩ := ho xs
      rcases q with q | q | ⟨z, q⟩
      · exact absurd (Option.some.inj q) o1
      · exact absurd (Option.some.inj q) o2
      · exact absurd (Option.some.inj q) (o3 z)
    · rw [upd_ne hb] at q
      exact S.bd b xs q
  · rw [upd_ne (ne q)]
    exact q
  · rw [upd_ne (ne q)]
    exact q
theorem Step.cut {c c' : Nat} (a : Step W m H W' m' H' c) (h : W'.n ≤ W.n + c') : Step W m H W' m' H' c' := ⟨a.le, a.kp, a.uk, a.dk, a.th, h⟩
/-- a def's body runs, no comprehension's block -/
structure XFn (X : Cx) : Prop where
  bk : X.env.blockKind = .function
  ps : PassesOwn (model X.prog X.w) X.A X.env X.xe
  st : X.stack = X.env :: X.outer
  fr : X.env.frame = some X.env.locals
/-- from where an exception was caught -/
def Zs.sub {G : Gs} (Z : Zs G) (n : Nat) (W : Kn) (m : Mu) (H : Hp) : Zs G where
  lim := n
  en W' m' H' := Z.en W' m' H' ∧ ∃ c', Step W m H W' m' H' c'
  cl S a b := by
    obtain ⟨e, _, a⟩ := a
    exact ⟨Z.cl S e b, _, Step.trans0 S a b⟩
theorem RepX.step {t : Xn} {c' : Nat} (S : SRel0 G W m H) (r : RepX G W H ⟨t.c, t.fs⟩ (.ref (G.cls t.c)) t.d) (st : Step W m H W' m' H' c') : RepX G W' H' ⟨t.c, t.fs⟩ (.ref (G.cls t.c)) t.d := by
  refine ⟨r.1, r.2.1, r.2.2.imp id ?_⟩
  rintro ⟨dd, fv, e1, e2, e3⟩
  have hm : m dd = none := by
    cases q : m dd with
    | none => rfl
    | some o =>
      cases o with
      | lst ds =>
        obtain ⟨vs, h1, _⟩ := S.bx dd _ q
        rw [e2] at h1
        cases h1
      | dct _ => exact (S.bx dd _ q).elim
      | ins _ _ => exact (S.bx dd _ q).elim
  have hd : ¬ drA W dd := by
    rintro ⟨v, hv, i⟩
    obtain ⟨xs, h1⟩ := (S.dr v hv).there i
    rw [e2] at h1
    cases h1
  exact ⟨dd, fv, e1, st.kp dd _ e2 hm hd, RepF.mono st.le e3⟩
/-- .. with the exception in a name -/
def Zs.subX {G : Gs} (Z : Zs G) (n : Nat) (W : Kn) (m : Mu) (H : Hp) (S : SRel0 G W m H) (t : Xn) (r : RepX G W H ⟨t.c, t.fs⟩ (.ref (G.cls t.c)) t.d) (i : Nat) : Zs G where
  lim := n
  en W' m' H' := Z.en W' m' H' ∧ ∃ c', Step W m H W' m' H' c'
  cl S a b := by
    obtain ⟨e, _, a⟩ := a
    exact ⟨Z.cl S e b, _, Step.trans0 S a b⟩
  xs := some (i, t)
  xd := by
    rintro W' m' H' S' ⟨_, c', st⟩ j u z
    cases z
    exact r.step S st
end
section
variable {G : Gs} {Z : Zs G} {px : PxE} {cm : Bool} {cst : Nat → Nat} {Φ : Fs} {gv : Nat → D} {k : Nat} {C : Ct} {X : Cx}
theorem passes0 {W : WX} (tk : Takes X W) : Passes (L2.CX X.prog X.w) X (fun _ _ _ => False) := fun pins σ H s e s' I c => passAt (tk.imp (W' := fun _ _ _ _ => False) fun _ _ _ _ q => q.elim) σ pins H s e s' I c
theorem ext_xd {fs : List (Str × V)} : ∀ xs, HO.xd fs ≠ .lst xs ∧ HO.xd fs ≠ .tup xs ∧ ∀ u, HO.xd fs ≠ .frz u (.tup xs) := fun xs => ⟨nofun, nofun, fun u => nofun⟩
theorem snd_raise (h : XOk Z px cm cst Φ gv k C X) (c : Nat) (fo : Option Nat) {es : Es} {l : List Expr → Bool} (he : OkA Z X l (fun σ m Q => wpEs Φ gv cm es σ m Q (px.at σ)) (cEs cst es)) (hcs : (fo.isSome || isStrEs es) = true) :
    OkS Z X (mRaise C c fo l) (wS Φ gv cm px (.raise c fo es)) (cEs cst es) := by
  intro st hm
  unfold mRaise at hm
  split at hm
  · rename_i x p1 p p2 p3
    simp only [Bool.and_eq_true, decide_eq_true_eq] at hm
    obtain ⟨⟨⟨⟨h1, h2⟩, h3⟩, h4⟩, h5⟩ := hm
    obtain ⟨g1, g2⟩ := gl_of h h2
    rcases bool_cases cm with hc | hc
    · obtain ⟨k1, k2, T, mk⟩ := h.ex.made c x fo h1
      have k2' := h.k2 c _ h1
      rw [← h.K] at T
      cases fo with
      | some f =>
        obtain ⟨fI, fd, ps, F1, hb, iC, tI⟩ := mk.ex
        rw [← h.K] at F1 hb iC tI
        have pm := pmk_oex (pos := p2) (p := p1) T.o iC tI F1 ((h.room hc).mono k2') hb .nil (passes0 h.tk) g1 k2 (he _ h4) g2 (star1 h3) rfl
        refine PS.of (ps_raise (h.calm hc) h.tk pm) ?_
        rintro Dn s H ⟨W, m, σ, nx, rt, hw, S, L, hn, kn, kr⟩
        refine ⟨W, m, σ, _, hw.2, S, L, hn, fun ds m1 vs H1 W1 _ st1 S1 rs q1 => ?_⟩
        have q1 : madeR (some f) ds fun fs => px ⟨c, fs⟩ σ m1 := q1
        cases ds with
        | nil => exact q1.elim
        | cons d rest =>
          cases rest with
          | cons _ _ => exact q1.elim
          | nil =>
            obtain ⟨y, rfl, ry⟩ := repL1 rs
            refine ⟨Nat.le_of_ble_eq_true rfl, fun a ha => ⟨a, y, rfl, upd_same, fun dx hd hne => ⟨rfl, dx, [(G.fld f, y)], upd_same, ?_, ?_, ?_⟩⟩⟩
            · rw [upd_ne hne, upd_same]
            · rw [upd_ne hne] at hd
              exact hd
            · rw [upd_ne hne] at hd
              have e : upd (del (upd (upd (upd H1 a (exo a (G.cls c) none)) dx (exd dx [(G.fld f, y)])) a (exo a (G.cls c) (some dx))) a) dx (.xd [(G.fld f, y)]) = upd H1 dx (.xd [(G.fld f, y)]) := by
                funext b
                by_cases hb : b = dx
                · rw [hb, upd_same, upd_same]
                · rw [upd_ne hb, upd_ne hb]
                  by_cases hba : b = a
                  · rw [hba, del_same, ha]
                  · rw [del_ne hba, upd_ne hba, upd_ne hb, upd_ne hba]
              rw [e]
              obtain ⟨S2, st2⟩ := S1.toSRel0.ext hd ext_xd
              have := st1.n
              exact ⟨⟨c, [(f, d)]⟩, W1, m1, σ, S1.step S2 st2, L.mono st1.le, by omega, ⟨rfl, k1, .inr ⟨dx, _, rfl, upd_same, rfl, .cons ry .nil⟩⟩, q1⟩
      | none =>
        have hp : ∃ z j q, p = .Constant (.str z) j q := by
          have h5 : isCStr p = true := by simpa using h5
          unfold isCStr at h5
          split at h5
          · exact ⟨_, _, _, rfl⟩
          · cases h5
        obtain ⟨z, j, q, rfl⟩ := hp
        have hes : isStrEs es = true := by simpa using hcs
        unfold isStrEs at hes
        obtain ⟨sz, rfl⟩ : ∃ s, es = .cons (.str s) .nil := by
          split at hes
          · exact ⟨_, rfl⟩
          · cases hes
        have pm := pmk_own (pos := p2) (p := p1) (p2 := q) (m := z) (j := j) F.excBase_ValueError (show PySem.W.excIn X.K (G.cls c) He.veBase "ValueError.__new__" = true by rw [h.K]; exact mk) k2 T.o.kC (raises_own T.o.exC T.o.tyC) g1 g2
        refine PS.of (ps_raise (h.calm hc) h.tk pm) ?_
        rintro Dn s H ⟨W, m, σ, nx, rt, hw, S, L, hn, kn, kr⟩
        exact ⟨⟨c, []⟩, W, m, σ, S, L, by omega, ⟨rfl, k1, .inl ⟨rfl, rfl⟩⟩, hw.2⟩
    · refine ps_no fun σ m nx rt q => ?_
      have := q.1
      rw [hc] at this
      cases this
  · cases hm
/-! ### try -/
theorem XOk.suite (h : XOk Z px cm cst Φ gv k C X) (hc : cm = true) {Z' : Zs G} (hlim : Z'.lim ≤ LIM) (a : Addr) (oe : Obj) (pn : List (Addr × Obj)) (hx : ∀ i t, Z'.xs = some (i, t) → t.a = a ∧ Zc (.ref (G.cls t.c)) t.d oe) (hf : ∃ vs, oe.data = .fields vs) :
    XOk Z' pF false cst Φ gv k C (X.suite a ((a, oe) :: pn)) :=
  ⟨h.N, h.nd, h.sc, h.fn, h.K, fun z => (by cases z), fun z => (by cases z), ⟨(h.room hc).dp, (h.room hc).un⟩, hlim, takes_no rfl, fun _ => rfl, h.call, h.callN, h.glob, h.bl, h.ex, fun i t z => by
    obtain ⟨e, hz⟩ := hx i t z
    exact ⟨oe, by rw [e]; exact List.mem_cons_self, hz, hf⟩, fun z => (by cases z), h.k2, h.ow⟩
theorem XFn.suite (f : XFn X) (a : Addr) (oe : Obj) (pn : List (Addr × Obj)) : XFn (X.suite a ((a, oe) :: pn)) :=
  ⟨f.bk, fun _ _ q => q.elim, f.st, f.fr⟩
/-- what the clauses are, from an exception that is caught -/
def OkH (Z : Zs G) (px : PxE) (cst : Nat → Nat) (Φ : Fs) (gv : Nat → D) (X : Cx) (l : List ExceptHandler → Bool) (hs : Hs) : Prop := ∀ phs, l phs = true → ∃ ls, ClsOk X phs ls ∧ ∀ (Dn : Ends) (nx : Env → Mu → Prop) (rt : D → Mu → Prop) (W : Kn) (m : Mu) (σ : Env) (s : L2.St) (H : Hp) (x : Ex) (cls : Value) (d : Option Addr),
  wpHs Φ gv hs x σ m (kt px nx rt) → SRel Z W m H → SlotR Z W σ s → W.n + cHs cst hs ≤ Z.lim → RepX G W H x cls d →
  (∀ σ' m' s' H' W', Step W m H W' m' H' (cHs cst hs) → SRel Z W' m' H' → SlotR Z W' σ' s' → nx σ' m' → Dn.nx s' H') →
  (∀ dv m' v H' W', Step W m H W' m' H' (cHs cst hs) → SRel Z W' m' H' → Rep G W' v dv → rt dv m' → Dn.rt v H') → clauses X.K (wishX Z px) Dn ls cls d s H
theorem snh_nil : OkH Z px cst Φ gv X (fun ps => ps.isEmpty) .nil := by
  intro phs hm
  cases phs with
  | cons _ _ => cases hm
  | nil =>
    refine ⟨[], .nil, fun Dn nx rt W m σ s H x cls d hw S L hn rx kn kr => ?_⟩
    exact ⟨x, W, m, σ, S, L, by have : cHs cst .nil = 0 := rfl; omega, rx, hw⟩
theorem snh_cons (h : XOk Z px cm cst Φ gv k C X) (hc : cm = true) (f : XFn X) (c : Nat) (i : Option Nat) {b : Ss} {r : Hs} {lb : List Stmt → Bool} {lr : List ExceptHandler → Bool} (hb : ∀ (Z' : Zs G) (X' : Cx), XOk Z' pF false cst Φ gv k C X' → XFn X' → OkSs Z' X' lb (wSs Φ gv false pF b) (cSs cst b)) (hr : OkH Z px cst Φ gv X lr r) :
    OkH Z px cst Φ gv X (fun ps => match ps with
      | [] => false
      | p :: ps => mH C c i lb p && lr ps) (.cons c i b r) := by
  intro phs hm
  cases phs with
  | nil => cases hm
  | cons p phs =>
    have hm : (mH C c i lb p && lr phs) = true := hm
    rw [Bool.and_eq_true] at hm
    obtain ⟨hp, hrest⟩ := hm
    obtain ⟨ls, hk, go⟩ := hr _ hrest
    unfold mH at hp
    split at hp
    · rename_i xn p1 nt s0 ss p2
      simp only [Bool.and_eq_true, decide_eq_true_eq] at hp
      obtain ⟨⟨⟨h1, h2⟩, h3⟩, h4⟩ := hp
      obtain ⟨g1, g2⟩ := gl_of h h2
      have xs0 := h.xs0 hc
      refine ⟨⟨clsV G c, i, fun a cls d Dn s H => ∃ Z' : Zs G, Z'.lim ≤ LIM ∧ (∀ j t, Z'.xs = some (j, t) → t.a = a ∧ cls = .ref (G.cls t.c) ∧ d = t.d) ∧ tS Z' (wSs Φ gv false pF b) (cSs cst b) Dn s H⟩ :: ls, .cons (h.ex.nameX h1 g1 g2) ?_ ?_ hk, fun Dn nx rt W m σ s H x cls d hw S L hn rx kn kr => ?_⟩
      · unfold mNm at h3
        split at h3
        · exact trivial
        · simp only [Bool.and_eq_true, decide_eq_true_eq] at h3
          exact ⟨by rw [h.N]; exact h3.1, by show X.env.scope.names.lookup _ = _; rw [h.sc]; exact h3.2⟩
        · cases h3
      · intro a oe cls d pn hz hf
        refine ⟨fun pins s st H D I q => ?_⟩
        obtain ⟨Z', hl, hx, q⟩ := q
        exact (hb Z' _ (h.suite hc hl a oe pn (fun j t e => by
          obtain ⟨e1, e2, e3⟩ := hx j t e
          refine ⟨e1, ?_⟩
          rw [← e2, ← e3]
          exact hz) hf) (f.suite a oe pn) _ h4).run pins s st H D I q
      · have hcost : cHs cst (.cons c i b r) = cSs cst b + cHs cst r := rfl
        obtain ⟨ec, hxk, alt⟩ := id rx
        obtain ⟨T, _, em⟩ := h.ex.known c xn h1 x.c hxk
        refine ⟨subX x.c c, by rw [h.K, ec]; exact em, fun hyes a ha => ?_, fun hno => ?_⟩
        · cases i with
          | none =>
            have hw : wpSs Φ gv false b σ m ⟨nx, rt, fun _ _ _ => False⟩ := by
              have q : (if subX x.c c = true then wpSs Φ gv false b σ m ⟨nx, rt, fun _ _ _ => False⟩ else wpHs Φ gv r x σ m (kt px nx rt)) := hw
              rw [if_pos hyes] at q
              exact q
            refine ⟨Z, h.lim, (fun j t e => by rw [xs0] at e; cases e), W, m, σ, nx, rt, hw, S, L, by omega, fun σ' m' s' H' W' st S' L' q => kn σ' m' s' H' W' (st.weak (by omega)) S' L' q, fun dv m' v H' W' st S' r' q => kr dv m' v H' W' (st.weak (by omega)) S' r' q⟩
          | some i =>
            have hw : wpSs Φ gv false b (σ.set i (.exn x.c x.fs)) m ⟨fun σ2 m2 => nx (σ2.set i .un) m2, rt, fun _ _ _ => False⟩ := by
              have q : (if subX x.c c = true then wpSs Φ gv false b (σ.set i (.exn x.c x.fs)) m ⟨fun σ2 m2 => nx (σ2.set i .un) m2, rt, fun _ _ _ => False⟩ else wpHs Φ gv r x σ m (kt px nx rt)) := hw
              rw [if_pos hyes] at q
              exact q
            have rt' : RepX G W H ⟨x.c, x.fs⟩ (.ref (G.cls x.c)) d := ⟨rfl, hxk, alt⟩
            have li := h.lim
            refine ⟨Z.subX Z.lim W m H S.toSRel0 ⟨a, x.c, x.fs, d⟩ rt' i, h.lim, fun j t e => ?_, W, m, _, _, rt, hw, ⟨S.toSRel0, S.en, 0, Step.refl ..⟩, ⟨by simp [L.len], fun j c' fs' e => ?_, fun j dv e u => ?_⟩, by show W.n + _ ≤ Z.lim; omega, fun σ' m' s' H' W' st S' L' q => ?_, fun dv m' v H' W' st S' r' q => ?_⟩
            · cases e
              exact ⟨rfl, ec, rfl⟩
            · rcases set_get e with ⟨rfl, hi, e2⟩ | ⟨hj, e2⟩
              · cases e2
                exact ⟨_, rfl, rfl, rfl, by rw [List.getElem?_set_self (by rw [← L.len]; exact hi)]⟩
              · obtain ⟨t, e3, _⟩ := L.ex j c' fs' e2
                rw [xs0] at e3
                cases e3
            · rcases set_get e with ⟨rfl, hi, e2⟩ | ⟨hj, e2⟩
              · rw [e2] at u
                cases u
              · rw [List.getElem?_set_ne hj]
                exact L.at_ j dv e2 u
            · refine kn _ m' _ H' W' (st.weak (by omega)) ⟨S'.toSRel0, S'.en.1⟩ ?_ q
              have L2 := L'.unset i
              refine ⟨L2.len, fun j c' fs' e => ?_, L2.at_⟩
              obtain ⟨t, e3, _⟩ := L2.ex j c' fs' e
              exfalso
              have e4 : (some (i, (⟨a, x.c, x.fs, d⟩ : Xn))) = some (j, t) := e3
              cases e4
              rcases set_get e with ⟨_, _, e5⟩ | ⟨hj, _⟩
              · cases e5
              · exact hj rfl
            · exact kr dv m' v H' W' (st.weak (by omega)) ⟨S'.toSRel0, S'.en.1⟩ r' q
        · have hw : wpHs Φ gv r x σ m (kt px nx rt) := by
            cases i with
            | none =>
              have q : (if subX x.c c = true then wpSs Φ gv false b σ m ⟨nx, rt, fun _ _ _ => False⟩ else wpHs Φ gv r x σ m (kt px nx rt)) := hw
              rw [if_neg (by rw [hno]; decide)] at q
              exact q
            | some i =>
              have q : (if subX x.c c = true then wpSs Φ gv false b (σ.set i (.exn x.c x.fs)) m ⟨fun σ2 m2 => nx (σ2.set i .un) m2, rt, fun _ _ _ => False⟩ else wpHs Φ gv r x σ m (kt px nx rt)) := hw
              rw [if_neg (by rw [hno]; decide)] at q
              exact q
          exact go Dn nx rt W m σ s H x cls d hw S L (by omega) rx (fun σ' m' s' H' W' st S' L' q => kn σ' m' s' H' W' (st.weak (by omega)) S' L' q) fun dv m' v H' W' st S' r' q => kr dv m' v H' W' (st.weak (by omega)) S' r' q
    · cases hp
theorem snd_try (h : XOk Z px cm cst Φ gv k C X) (f : XFn X) {b : Ss} {hs : Hs} {lb : List Stmt → Bool} {lh : List ExceptHandler → Bool} (hb : ∀ (Z' : Zs G) (px' : PxE) (X' : Cx), XOk Z' px' true cst Φ gv k C X' → XFn X' → OkSs Z' X' lb (wSs Φ gv true px' b) (cSs cst b)) (hh : cm = true → OkH Z px cst Φ gv X lh hs) :
    OkS Z X (mTry lb lh) (wS Φ gv cm px (.tryx b hs)) (cSs cst b + cHs cst hs) := by
  intro st hm
  unfold mTry at hm
  split at hm
  · rename_i pb h0 phs p1
    rw [Bool.and_eq_true] at hm
    obtain ⟨h1, h2⟩ := hm
    rcases bool_cases cm with hc | hc
    · have xs0 := h.xs0 hc
      obtain ⟨ls, hk, go⟩ := hh hc _ h2
      subst hc
      have hN : X.N.Nodup := by rw [h.N]; exact h.nd
      refine PS.of (ps_clauses (ι := { p : Zs G × PxE // p.1.lim ≤ LIM ∧ p.1.xs = none }) (wi := fun p => wishX p.1.1 p.1.2) (tb := fun p => tS p.1.1 (wSs Φ gv true p.1.2 b) (cSs cst b)) (Wout := wishX Z px) f.st f.fr hN h.tk (fun p pn xe tk ps => ?_)) ?_
      · obtain ⟨⟨Z', px'⟩, hl, hx⟩ := p
        exact hb Z' px' (X.tr pn xe) (show XOk Z' px' true cst Φ gv k C (X.tr pn xe) from ⟨h.N, h.nd, h.sc, h.fn, h.K, fun _ => h.calm rfl, fun _ => h.room rfl, h.rooH, hl, tk, fun z => (by cases z), h.call, h.callN, h.glob, h.bl, h.ex, fun i t z => (by rw [hx] at z; cases z), fun _ => hx, h.k2, h.ow⟩) (show XFn (X.tr pn xe) from ⟨f.bk, ps, f.st, f.fr⟩) _ h1
      · rintro Dn s H ⟨W, m, σ, nx, rt, hw, S, L, hn, kn, kr⟩
        have li := h.lim
        refine ⟨⟨(Z.sub (W.n + cSs cst b) W m H, fun x σ' m' => wpHs Φ gv hs x σ' m' (kt px nx rt)), (by show W.n + cSs cst b ≤ LIM; omega), rfl⟩, ls, hk, ?_, ?_⟩
        · refine ⟨W, m, σ, nx, rt, hw.2, ⟨S.toSRel0, S.en, 0, Step.refl ..⟩, ⟨L.len, fun i c fs e => ?_, L.at_⟩, Nat.le_refl _, fun σ' m' s' H' W' st S' L' q => ?_, fun dv m' v H' W' st S' r q => ?_⟩
          · obtain ⟨t, e1, _⟩ := L.ex i c fs e
            rw [xs0] at e1
            cases e1
          · refine kn σ' m' s' H' W' (st.weak (by omega)) ⟨S'.toSRel0, S'.en.1⟩ ⟨L'.len, fun i c fs e => ?_, L'.at_⟩ q
            obtain ⟨t, e1, _⟩ := L'.ex i c fs e
            cases e1
          · exact kr dv m' v H' W' (st.weak (by omega)) ⟨S'.toSRel0, S'.en.1⟩ r q
        · rintro cls d s' H' ⟨x, W', m', σ', S', L', n', rx, hx⟩
          obtain ⟨en, c', st⟩ := S'.en
          have n' : W'.n ≤ W.n + cSs cst b := n'
          have st2 := st.cut n'
          have SZ : SRel Z W' m' H' := ⟨S'.toSRel0, en⟩
          refine go Dn nx rt W' m' σ' s' H' x cls d hx SZ ⟨L'.len, fun i c fs e => ?_, L'.at_⟩ (by omega) rx (fun σ2 m2 s2 H2 W2 st3 S2 L2 q => kn σ2 m2 s2 H2 W2 (Step.trans0 S'.toSRel0 st2 st3) S2 L2 q) fun dv m2 v H2 W2 st3 S2 r q => kr dv m2 v H2 W2 (Step.trans0 S'.toSRel0 st2 st3) S2 r q
          obtain ⟨t, e1, _⟩ := L'.ex i c fs e
          cases e1
    · refine ps_no fun σ m nx rt q => ?_
      have := q.1
      rw [hc] at this
      cases this
  · cases hm
end
end Pk

/-! a, .., *r = xs; a, b = a list: soundness. -/
namespace Pk
open PySem L2
/-- names set, one behind the other, then what is left -/
def gNs (rest : TGs) : List Nat → TGs
  | [] => rest
  | i :: is => gCons (gName i) (gNs rest is)
section
variable {G : Gs} {Z : Zs G} {px : PxE} {cm : Bool} {cst : Nat → Nat} {Φ : Fs} {gv : Nat → D} {k : Nat} {C : Ct} {X : Cx}
theorem gNs_run {rest : TGs} {ws : List V} {H : Hp} {Q : L2.St → Hp → Prop} {W : Kn} : ∀ (is : List Nat) {vs : List V} {ds : List D} {σ : Env} {s : L2.St}, SlotR Z W σ s → RepL G W vs ds → is.length = vs.length → (∀ s', SlotR Z W (setAll σ is ds) s' → rest ws s' H Q) → gNs rest is (vs ++ ws) s H Q
  | [], vs, ds, σ, s, L, r, hl, hq => by
    cases vs with
    | cons _ _ => cases hl
    | nil => cases r; exact hq s L
  | i :: is, vs, ds, σ, s, L, r, hl, hq => by
    cases vs with
    | nil => cases hl
    | cons v vs =>
      cases r with
      | cons r1 r2 => exact ⟨v, vs ++ ws, rfl, gNs_run is (L.set r1) r2 (by simpa using hl) hq⟩
theorem pgs_ns (h : XOk Z px cm cst Φ gv k C X) {l : List Expr → Bool} {rest : TGs} {n : Nat} {st : Option Nat} (hl : ∀ es, l es = true → PGs X es rest ∧ (assignEach es X.env).length = n ∧ (assignEach es X.env).findIdx? (·.1) = st) : ∀ (is : List Nat) (es : List Expr), mNs C l is es = true →
    PGs X es (gNs rest is) ∧ (assignEach es X.env).length = is.length + n ∧ (assignEach es X.env).findIdx? (·.1) = st.map (· + is.length)
  | [], es, hm => by
    obtain ⟨h1, h2, h3⟩ := hl es hm
    refine ⟨h1, by rw [h2]; simp, ?_⟩
    rw [h3]
    cases st <;> rfl
  | i :: is, [], hm => by cases hm
  | i :: is, e :: es, hm => by
    cases e with
    | Name x p =>
      have hm : (decide (C.N[i]? = some x) && locB C x && mNs C l is es) = true := hm
      simp only [Bool.and_eq_true, decide_eq_true_eq] at hm
      obtain ⟨⟨h1, h2⟩, h3⟩ := hm
      obtain ⟨g1, g2, g3⟩ := pgs_ns h hl is es h3
      obtain ⟨l1, l2⟩ := loc_of h h2
      refine ⟨pgs_cons (pg_name (by rw [h.N]; exact h.nd) (by rw [h.N]; exact h1) l1 l2) g1, ?_, ?_⟩
      · show (assignEach es X.env).length + 1 = _
        rw [g2]
        simp
        omega
      · show List.findIdx? (·.1) ((false, assign (.Name x p) X.env) :: assignEach es X.env) = _
        rw [List.findIdx?_cons, g3]
        cases st <;> simp <;> omega
    | _ => cases hm
theorem setAll_take : ∀ (σ : Env) (is : List Nat) (ds : List D), setAll σ is (ds.take is.length) = setAll σ is ds
  | σ, [], ds => by cases ds <;> rfl
  | σ, i :: is, [] => rfl
  | σ, i :: is, d :: ds => setAll_take (σ.set i d) is ds
theorem star_last (h : XOk Z px cm cst Φ gv k C X) (r : Nat) : ∀ es, mStarE C r es = true → PGs X es (gCons (gName r) gNil) ∧ (assignEach es X.env).length = 1 ∧ (assignEach es X.env).findIdx? (·.1) = some 0 := by
  intro es hm
  unfold mStarE at hm
  split at hm
  · simp only [Bool.and_eq_true, decide_eq_true_eq] at hm
    obtain ⟨l1, l2⟩ := loc_of h hm.2
    exact ⟨pgs_starN (pg_name (by rw [h.N]; exact h.nd) (by rw [h.N]; exact hm.1) l1 l2), rfl, rfl⟩
  · cases hm
theorem unp_ps (h : XOk Z px cm cst Φ gv k C X) {l : List Expr → Bool} {le : Lk} {te : TE} {tg : TG} {st : Stmt} (hm : mUnp l le st = true) (hg : ∀ ts kk tp, l ts = true → PG X (.Tuple ts kk tp) tg) (he : ∀ pe, le pe = true → PE X pe te) : PS X st (tAsg te tg) := by
  unfold mUnp at hm
  split at hm
  · rename_i ts kk tp pe pos
    simp only [Bool.and_eq_true, Bool.not_eq_true'] at hm
    obtain ⟨⟨⟨h1, h2⟩, h3⟩, h4⟩ := hm
    have hsw : swappedStores [.Tuple ts kk tp] pe X.env = pure none := by
      cases pe <;> first | rfl | cases h4
    exact ps_asg (he _ h2) (hg _ _ _ h1) (swap_none (t := some (.Tuple ts kk tp)) (l := pos.line) (env := X.env) h3) hsw
  · cases hm
theorem snd_star (h : XOk Z px cm cst Φ gv k C X) (is : List Nat) (r : Nat) {e : E} {le : Lk} (he : OkP Z X le (fun σ m Q => wpE Φ gv cm e σ m Q (px.at σ)) (cE cst e)) :
    OkS Z X (mUnp (mNs C (mStarE C r) is) le) (wS Φ gv cm px (.star is r e)) (cE cst e) := by
  intro st hm
  rcases bool_cases cm with hc | hc
  · refine PS.of (unp_ps h (tg := gStar X.K is.length (gNs (gCons (gName r) gNil) is)) hm (fun ts kk tp q => ?_) he) ?_
    · obtain ⟨g1, g2, g3⟩ := pgs_ns h (star_last h r) is ts q
      exact pg_star (h.calm hc) g1 g2 (by rw [g3]; simp)
    · rintro Dn s H ⟨W, m, σ, nx, rt, hw, S, L, hn, kn, kr⟩
      refine ⟨W, m, σ, _, hw.2, S, L, hn, fun d m1 v H1 W1 st1 S1 rv q1 => ?_⟩
      obtain ⟨ds, e1, e2, q1⟩ := q1
      have fin : ∀ a xs, RepL G W1 xs ds → (SqL X.K H1 a xs ∨ SqT X.K H1 a xs) → v = .ref a → gStar X.K is.length (gNs (gCons (gName r) gNil) is) v s H1 Dn.nx := by
        intro a xs rx hsq ev
        refine ⟨a, xs, ev, hsq, by rw [rx.length]; exact e2, fun p hp hz => ?_⟩
        have S2 := S1.new (o := .lst (xs.drop is.length)) hp (by show (xs.drop is.length).length ≤ _; rw [List.length_drop]; omega)
        have le2 := le_new (W := W1) (o := .lst (xs.drop is.length)) (S1.none hp).1
        have rd := RepL.mono le2 _ (rx.drop is.length)
        have rt' := RepL.mono le2 _ (rx.take is.length)
        refine gNs_run is ((L.mono st1.le).mono le2) rt' (by rw [List.length_take, rx.length]; omega) fun s' L' => ?_
        refine ⟨_, [], rfl, rfl, ?_⟩
        have st2 := (Step.trans S1 st1 (Step.new (c := 0) S1 (o := .lst (xs.drop is.length)) hp)).weak (Nat.le_of_eq (Nat.add_zero _))
        have L2' := L'.set (i := r) (Rep.lst (a := p) (xs := xs.drop is.length) upd_same rd)
        refine kn _ m1 _ _ _ st2 S2 L2' ?_
        have ea : setAll σ is (ds.take is.length) = setAll σ is ds := setAll_take σ is ds
        rw [ea]
        exact q1
      unfold seqD at e1
      split at e1
      · rename_i es e3
        cases e1
        obtain ⟨a, xs, rfl, h1, q⟩ := rd_tup S1 rv e3
        exact fin a xs q (.inr (by rw [h.K]; exact h1)) rfl
      · rename_i es e3
        cases e1
        obtain ⟨a, xs, rfl, h1, q⟩ := rd_lst S1 rv e3
        exact fin a xs q (.inl (.of h1)) rfl
      · cases e1
  · refine ps_no fun σ m nx rt q => ?_
    have := q.1
    rw [hc] at this
    cases this
theorem snd_unl (h : XOk Z px cm cst Φ gv k C X) (is : List Nat) {e : E} {le : Lk} (he : OkP Z X le (fun σ m Q => wpE Φ gv cm e σ m Q (px.at σ)) (cE cst e)) :
    OkS Z X (mUnp (mNs C (fun es => es.isEmpty) is) le) (wS Φ gv cm px (.unl is e)) (cE cst e) := by
  intro st hm
  rcases bool_cases cm with hc | hc
  · refine PS.of (unp_ps h (tg := gUnl X.K is.length (gNs gNil is)) hm (fun ts kk tp q => ?_) he) ?_
    · obtain ⟨g1, g2, g3⟩ := pgs_ns h (n := 0) (st := none) (rest := gNil) (fun es q => by
        cases es with
        | cons _ _ => cases q
        | nil => exact ⟨pgs_nil, rfl, rfl⟩) is ts q
      exact pg_unl (h.calm hc) g1 (by rw [g2]; rfl) (by rw [g3]; rfl)
    · rintro Dn s H ⟨W, m, σ, nx, rt, hw, S, L, hn, kn, kr⟩
      refine ⟨W, m, σ, _, hw.2, S, L, hn, fun d m1 v H1 W1 st1 S1 rv q1 => ?_⟩
      obtain ⟨ds, e1, e2, q1⟩ := q1
      obtain ⟨a, xs, rfl, h1, rx⟩ := rd_lst S1 rv e1
      refine ⟨a, xs, rfl, .of h1, by rw [rx.length]; exact e2.symm, ?_⟩
      have := gNs_run (rest := gNil) (ws := []) (H := H1) (Q := Dn.nx) is (L.mono st1.le) rx (by rw [rx.length]; exact e2) fun s' L' => ⟨rfl, kn _ m1 _ H1 W1 st1 S1 L' q1⟩
      rw [List.append_nil] at this
      exact this
  · refine ps_no fun σ m nx rt q => ?_
    have := q.1
    rw [hc] at this
    cases this
end
end Pk

/-! Statements: augmented, boxes, loops; all statements. -/
namespace Pk
open PySem L2
section
variable {G : Gs} {Z : Zs G} {px : PxE} {cm : Bool} {cst : Nat → Nat} {Φ : Fs} {gv : Nat → D} {k : Nat} {C : Ct} {X : Cx}
theorem ip_bor : PIp X .BitOr (ipI fun i j => PySem.Builtin.bitOr i j) := by
  intro pins s σ H x y v u Q I r1 r2 h
  obtain ⟨i, j, rfl, rfl, q⟩ := h
  obtain ⟨t1, rfl⟩ := r1
  obtain ⟨t2, rfl⟩ := r2
  exact PyProof.Rows.ior_int ⟨.int _, H, I.tok _, ⟨_, rfl⟩, q⟩
theorem snd_aug (h : XOk Z px cm cst Φ gv k C X) (i : Nat) (o : O2) {e : E} {le : Lk} (he : OkP Z X le (fun σ m Q => wpE Φ gv cm e σ m Q (px.at σ)) (cE cst e)) :
    OkS Z X (mAug C i o le) (wS Φ gv cm px (.aug i o e)) (cE cst e) := by
  intro st hm
  unfold mAug at hm
  split at hm
  · rename_i x px po pe pos
    simp only [Bool.and_eq_true, decide_eq_true_eq] at hm
    obtain ⟨⟨⟨⟨h1, h2⟩, h3⟩, h4⟩, h5⟩ := hm
    obtain ⟨l1, l2⟩ := loc_of h h2
    have hNd : X.N.Nodup := by rw [h.N]; exact h.nd
    have hNi : X.N[i]? = some x := by rw [h.N]; exact h1
    subst h3
    rcases h4 with h4 | h4 | h4
    · subst h4
      refine PS.of (ps_aug hNd hNi l1 (he _ h5) ip_add l2) ?_
      intro Dn s H q
      obtain ⟨W, m, σ, nx, rt, hw, S, L, hn, kn, kr⟩ := q
      obtain ⟨a, e1, hw⟩ := hw
      obtain ⟨v, q1, q2⟩ := L.at_ i _ e1 rfl
      cases q2
      refine ⟨_, q1, W, m, σ, _, hw, S, L, hn, fun d m1 v H1 W1 st1 S1 r q1 => ?_⟩
      split at q1
      · cases r
        exact ⟨_, _, rfl, rfl, kn _ m1 _ H1 W1 st1 S1 ((L.mono st1.le).set (.int _)) q1⟩
      · exact q1.elim
    · subst h4
      refine PS.of (ps_aug hNd hNi l1 (he _ h5) ip_sub l2) ?_
      intro Dn s H q
      obtain ⟨W, m, σ, nx, rt, hw, S, L, hn, kn, kr⟩ := q
      obtain ⟨a, e1, hw⟩ := hw
      obtain ⟨v, q1, q2⟩ := L.at_ i _ e1 rfl
      cases q2
      refine ⟨_, q1, W, m, σ, _, hw, S, L, hn, fun d m1 v H1 W1 st1 S1 r q1 => ?_⟩
      split at q1
      · cases r
        exact ⟨_, _, rfl, rfl, kn _ m1 _ H1 W1 st1 S1 ((L.mono st1.le).set (.int _)) q1⟩
      · exact q1.elim
    · subst h4
      refine PS.of (ps_aug hNd hNi l1 (he _ h5) ip_bor l2) ?_
      intro Dn s H q
      obtain ⟨W, m, σ, nx, rt, hw, S, L, hn, kn, kr⟩ := q
      obtain ⟨a, e1, hw⟩ := hw
      obtain ⟨v, q1, q2⟩ := L.at_ i _ e1 rfl
      cases q2
      refine ⟨_, q1, W, m, σ, _, hw, S, L, hn, fun d m1 v H1 W1 st1 S1 r q1 => ?_⟩
      split at q1
      · cases r
        exact ⟨_, _, rfl, rfl, kn _ m1 _ H1 W1 st1 S1 ((L.mono st1.le).set (.int _)) q1⟩
      · exact q1.elim
  · cases hm
theorem snd_par (h : XOk Z px cm cst Φ gv k C X) (hb : X.env.blockKind = .function) (i j : Nat) {a b : E} {la lb : Lk} (ha : OkP Z X la (fun σ m Q => wpE Φ gv cm a σ m Q (px.at σ)) (cE cst a)) (hb2 : OkP Z X lb (fun σ m Q => wpE Φ gv cm b σ m Q (px.at σ)) (cE cst b)) :
    OkS Z X (mPar C i j la lb) (wS Φ gv cm px (.par i j a b)) (cE cst a + cE cst b) := by
  intro st hm
  rcases bool_cases cm with hcm | hcm
  case inr =>
    refine ps_no fun σ m nx rt hw => ?_
    have : cm = true := hw.1
    rw [hcm] at this
    cases this
  unfold mPar at hm
  split at hm
  · rename_i x qx y py kt pt pa pb k2 pt2 pos
    simp only [Bool.and_eq_true, decide_eq_true_eq, Bool.not_eq_true', decide_eq_false_iff_not] at hm
    obtain ⟨⟨⟨⟨⟨⟨⟨⟨⟨⟨⟨g1, g2⟩, g3⟩, g4⟩, g5⟩, g6⟩, g7⟩, g8⟩, g9⟩, g10⟩, g11⟩, g12⟩ := hm
    have hl1 : X.env.scope.names.lookup x = some .local := by rw [h.sc]; exact g4
    have hl2 : X.env.scope.names.lookup y = some .local := by rw [h.sc]; exact g5
    have hNi : X.N[i]? = some x := by rw [h.N]; exact g1
    have hNj : X.N[j]? = some y := by rw [h.N]; exact g2
    have hxy : x ≠ y := by
      intro e
      subst e
      have := h.nd
      exact g3 ((List.getElem?_inj (List.getElem?_eq_some_iff.mp g1).1 this).mp (g1.trans g2.symm))
    have hw : swappedStores [.Tuple [.Name x qx, .Name y py] kt pt] (.Tuple [pa, pb] k2 pt2) X.env = pure (some [x, y]) := by
      have e1 : X.env.kindOf x = some .local := hl1
      have e2 : X.env.kindOf y = some .local := hl2
      have e3 : qx.line = py.line := beq_iff_eq.mp g6
      have hyx : (y == x) = false := beq_eq_false_iff_ne.mpr fun z => hxy z.symm
      have st : ∀ {u : Expr}, notStar u = true → ∀ {p : Prop}, (∃ v q, u = .Starred v q) → p := fun {u} hu {p} ⟨v, q, e⟩ => by subst e; cases hu
      unfold swappedStores
      simp [hb, e1, e2, e3, List.filterMap, Expr.pos, hxy, List.eraseDups, List.eraseDupsBy, List.eraseDupsBy.loop, hyx]
      rw [if_neg (by
        rintro (z | z)
        · cases pa <;> first | (cases z; done) | cases g9
        · cases pb <;> first | (cases z; done) | cases g10)]
      rw [if_neg (fun z => by rw [z.1, z.2] at g7; cases g7), if_neg (fun z => by rw [z.1, z.2] at g8; cases g8)]
    refine PS.of (ps_par (h.calm hcm) (by rw [h.N]; exact h.nd) hNi hNj g3 hl1 hl2 (pa_cons (ha _ g11) (pa_cons (hb2 _ g12) pa_nil (star1 g10)) (star1 g9)) hw) ?_
    intro Dn s H q
    obtain ⟨W, m, σ, nx, rt, hw, S, L, hn, kn, kr⟩ := q
    refine ⟨W, m, σ, _, hw.2, S, L, by omega, fun dx m1 vx H1 W1 st1 S1 rx q1 => ?_⟩
    have n1 := st1.n
    refine ⟨W1, m1, σ, _, q1, S1, L.mono st1.le, by omega, fun dy m2 vy H2 W2 st2 S2 ry q2 => ?_⟩
    refine ⟨vx, vy, rfl, kn _ m2 _ H2 W2 (Step.trans S1 st1 st2) S2 ?_ q2⟩
    exact (((L.mono st1.le).mono st2.le).set (Rep.mono st2.le _ rx)).set ry
  · cases hm
theorem snd_app (h : XOk Z px cm cst Φ gv k C X) {a e : E} {la le : Lk} (ha : OkP Z X la (fun σ m Q => wpE Φ gv cm a σ m Q (px.at σ)) (cE cst a)) (he : OkP Z X le (fun σ m Q => wpE Φ gv cm e σ m Q (px.at σ)) (cE cst e)) :
    OkS Z X (mApp la le) (wS Φ gv cm px (.app a e)) (cE cst a + cE cst e) := by
  intro st hm
  unfold mApp at hm
  split at hm
  · rename_i pa x apos p pos pos'
    simp only [Bool.and_eq_true, decide_eq_true_eq] at hm
    obtain ⟨⟨⟨⟨⟨h1, h2⟩, h3⟩, h4⟩, h5⟩, h6⟩ := hm
    subst h1
    have hline := beq_iff_eq.mpr h2
    refine PS.of (ps_expr (pe_bm PySem.F.plainAttrs_list PySem.F.slot_list_append PySem.F.type_list_append mt_append (ha _ h5) (pa_cons (he _ h6) pa_nil (star1 h4)) (attr_of h3 _ _) (by rw [star1 h4]; rfl) hline (star1 h4) rfl)) ?_
    intro Dn s H q
    obtain ⟨W, m, σ, nx, rt, hw, S, L, hn, kn, kr⟩ := q
    refine ⟨W, m, σ, _, hw, S, L, by omega, fun dx m1 vx H1 W1 st1 S1 rx q1 => ?_⟩
    have n1 := st1.n
    obtain ⟨q0, q1⟩ := q1
    split at q0
    · rename_i p
      cases rx
      obtain ⟨ds0, q0⟩ := q0
      obtain ⟨vs0, z1, z2⟩ := S1.bx p _ q0
      refine ⟨.inl ⟨rfl, vs0, .of z1⟩, W1, m1, σ, _, q1, S1, L.mono st1.le, by omega, fun dy m2 vy H2 W2 st2 S2 ry q2 => ?_⟩
      obtain ⟨ds, y1, y2, y3⟩ := q2
      obtain ⟨vs, x1, x2⟩ := S2.bx p _ y1
      have hl : vs.length < sizeLine := by rw [x2.length, ← line_eq]; exact y2
      obtain ⟨S3, st3⟩ := S2.wr (ds' := ds ++ [dy]) (vs' := vs ++ [vy]) y1 (x2.append (.cons ry .nil)) (by rw [List.length_append, List.length_singleton]; omega)
      exact ⟨p, vs, vy, rfl, rfl, x1, hl, kn _ _ _ _ W2 ((Step.trans S2 (Step.trans S1 st1 st2) st3).weak (by omega)) S3 ((L.mono st1.le).mono st2.le) y3⟩
    · exact q0.elim
  · cases hm
theorem snd_seti (h : XOk Z px cm cst Φ gv k C X) {a i e : E} {la li le : Lk} (ha : OkP Z X la (fun σ m Q => wpE Φ gv cm a σ m Q (px.at σ)) (cE cst a)) (hi : OkP Z X li (fun σ m Q => wpE Φ gv cm i σ m Q (px.at σ)) (cE cst i)) (he : OkP Z X le (fun σ m Q => wpE Φ gv cm e σ m Q (px.at σ)) (cE cst e)) :
    OkS Z X (mSeti la li le) (wS Φ gv cm px (.seti a i e)) (cE cst e + (cE cst a + cE cst i)) := by
  intro st hm
  unfold mSeti at hm
  split at hm
  · rename_i pa pi sp pe pos
    simp only [Bool.and_eq_true] at hm
    obtain ⟨⟨⟨⟨h1, h2⟩, h3⟩, h4⟩, h5⟩ := hm
    have hs2 : swapsWithSole [.Subscript pa pi sp] pe pos.line X.env = pure false := swap_none (t := some (.Subscript pa pi sp)) (l := pos.line) (env := X.env) h4
    have hasg : ∀ v, assign (.Subscript pa pi sp) X.env v = (do
      let ov ← holding [v] (eval pa X.env)
      let iv ← holding [v, ov] (eval pi X.env)
      standAt sp
      holding [v, ov, iv] (setItem ov iv v)
      release [v, ov, iv] []) := by
      intro v
      cases pi <;> first | rfl | cases h2
    refine PS.of (ps_asg (he _ h5) (pg_sub (ha _ h1) (hi _ h3) set_list hasg) hs2) ?_
    intro Dn s H q
    obtain ⟨W, m, σ, nx, rt, hw, S, L, hn, kn, kr⟩ := q
    refine ⟨W, m, σ, _, hw, S, L, by omega, fun dy m1 vy H1 W1 st1 S1 ry q1 => ?_⟩
    have n1 := st1.n
    refine ⟨W1, m1, σ, _, q1, S1, L.mono st1.le, by omega, fun dx m2 vx H2 W2 st2 S2 rx q2 => ?_⟩
    have n2 := st2.n
    refine ⟨W2, m2, σ, _, q2, S2, (L.mono st1.le).mono st2.le, by omega, fun dz m3 vz H3 W3 st3 S3 rz q3 => ?_⟩
    split at q3
    · rename_i p j
      cases rx
      cases rz
      obtain ⟨ds, n, y1, y2, y3⟩ := q3
      obtain ⟨vs, x1, x2⟩ := S3.bx p _ y1
      have hl : vs.length ≤ sizeLine := S3.bd p _ (.inl x1)
      have ry' : Rep G W3 vy dy := Rep.mono st3.le _ (Rep.mono st2.le _ ry)
      obtain ⟨S4, st4⟩ := S3.wr (ds' := ds.set n dy) (vs' := vs.set n vy) y1 (RepL.set n x2 ry') (by rw [List.length_set]; exact hl)
      exact ⟨p, vs, j, n, rfl, rfl, x1, by rw [x2.length]; exact y2, kn _ _ _ _ W3 ((Step.trans S3 (Step.trans S2 (Step.trans S1 st1 st2) st3) st4).weak (by omega)) S4 (((L.mono st1.le).mono st2.le).mono st3.le) y3⟩
    · exact q3.elim
  · cases hm
theorem snd_box (h : XOk Z px cm cst Φ gv k C X) (i : Nat) {es : Es} {l : List Expr → Bool} (he : OkA Z X l (fun σ m Q => wpEs Φ gv cm es σ m Q (px.at σ)) (cEs cst es)) :
    OkS Z X (mAsgN C i (mLst l)) (wS Φ gv cm px (.box i (.lst es))) (cEs cst es) := by
  intro st hm
  unfold mAsgN at hm
  split at hm
  · rename_i x px pe pos
    simp only [Bool.and_eq_true, decide_eq_true_eq] at hm
    obtain ⟨⟨⟨h1, h2⟩, h4⟩, h3⟩ := hm
    obtain ⟨l1, l2⟩ := loc_of h h2
    have hNd : X.N.Nodup := by rw [h.N]; exact h.nd
    have hNi : X.N[i]? = some x := by rw [h.N]; exact h1
    unfold mLst at h3
    split at h3
    · obtain ⟨g1, g2⟩ := Bool.and_eq_true_iff.mp h3
      refine PS.of (ps_set hNd hNi l1 (pe_lst (he _ g2)) (swap_none h4) l2) ?_
      intro Dn s H q
      obtain ⟨W, m, σ, nx, rt, hw, S, L, hn, kn, kr⟩ := q
      refine ⟨W, m, σ, fun ds m1 => ∀ a, m1 a = .none → nx (σ.set i (.ref a)) (mup m1 a (some (.lst ds))), hw, S, L, hn, fun ds m1 vs H1 W1 hz st1 S1 rs q1 => ?_⟩
      have hl : vs.length ≤ sizeLine := by
        rw [rs.length, hz]
        exact Nat.le_trans (of_decide_eq_true g1) (by decide)
      refine ⟨hl, fun p hp => ?_⟩
      obtain ⟨S2, st2⟩ := S1.box hp rs hl
      exact kn _ _ _ _ W1 ((Step.trans S1 st1 st2).weak (by omega)) S2 ((L.mono st1.le).set (.ref p)) (q1 p (S1.none hp).2.1)
    · cases h3
  · cases hm
theorem snd_boxS (h : XOk Z px cm cst Φ gv k C X) (i : Nat) {a e : E} {la le : Lk} (ha : OkP Z X la (fun σ m Q => wpE Φ gv cm a σ m Q (px.at σ)) (cE cst a)) (he : OkP Z X le (fun σ m Q => wpE Φ gv cm e σ m Q (px.at σ)) (cE cst e)) :
    OkS Z X (mAsgN C i (mSm .split la le)) (wS Φ gv cm px (.box i (.sm .split a e))) (cE cst a + cE cst e) := by
  intro st hm
  unfold mAsgN at hm
  split at hm
  · rename_i x px pe pos
    simp only [Bool.and_eq_true, decide_eq_true_eq] at hm
    obtain ⟨⟨⟨h1, h2⟩, h4⟩, h3⟩ := hm
    obtain ⟨l1, l2⟩ := loc_of h h2
    have hNd : X.N.Nodup := by rw [h.N]; exact h.nd
    have hNi : X.N[i]? = some x := by rw [h.N]; exact h1
    unfold mSm at h3
    split at h3
    · simp only [Bool.and_eq_true, decide_eq_true_eq] at h3
      obtain ⟨⟨⟨⟨⟨k1, k2⟩, k3⟩, k4⟩, k5⟩, k6⟩ := h3
      subst k1
      have hline := beq_iff_eq.mpr k2
      refine PS.of (ps_set hNd hNi l1 (pe_m1 F.slot_str_split F.type_str_split mt_split (ha _ k5) (he _ k6) (star1 k4) (attr_of k3 _ _) hline) (swap_none h4) l2) ?_
      intro Dn s H q
      obtain ⟨W, m, σ, nx, rt, hw, S, L, hn, kn, kr⟩ := q
      refine ⟨W, m, σ, _, hw, S, L, by omega, fun dx m1 vx H1 W1 st1 S1 rx q1 => ?_⟩
      have n1 := st1.n
      obtain ⟨e1, q1⟩ := q1
      cases dx <;> first | (exact e1.elim; done) | skip
      cases rx
      rename_i t
      refine ⟨⟨_, rfl⟩, W1, m1, σ, _, q1, S1, L.mono st1.le, by omega, fun dy m2 vy H2 W2 st2 S2 ry q2 => ?_⟩
      cases dy <;> first | (exact q2.elim; done) | skip
      rename_i u
      cases ry
      obtain ⟨⟨g1, g2⟩, q2⟩ := q2
      refine ⟨mkS t, mkS u, rfl, rfl, ?_, ?_, fun p hp => ?_⟩
      · show (u.toArray.size == 0) = false
        cases u with
        | nil => exact absurd rfl g1
        | cons _ _ => simp
      · show t.toArray.size + 2 ≤ sizeLine
        rw [← line_eq]
        simpa using g2
      · have hl : (Txt.split (mkS t) (mkS u)).length ≤ sizeLine := by
          have := split_len t u
          rw [← line_eq]
          omega
        have rr : RepL G W2 ((Txt.split (mkS t) (mkS u)).map V.str) ((splitS t u).map .str) := strs_text _
        obtain ⟨S3, st3⟩ := S2.box hp rr (by rw [List.length_map]; exact hl)
        exact kn _ _ _ _ W2 ((Step.trans S2 (Step.trans S1 st1 st2) st3).weak (by omega)) S3 (((L.mono st1.le).mono st2.le).set (.ref p)) (q2 p (S2.none hp).2.1)
    · cases h3
  · cases hm
theorem sub_asg {pa pi : Expr} {sp : Pos} (h : notSlice pi = true) : ∀ v, assign (.Subscript pa pi sp) X.env v = (do
      let ov ← holding [v] (eval pa X.env)
      let iv ← holding [v, ov] (eval pi X.env)
      standAt sp
      holding [v, ov, iv] (setItem ov iv v)
      release [v, ov, iv] []) := by
  intro v
  cases pi <;> first | rfl | cases h
theorem ix_at {α : Type} {xs : List α} {i : Int} {n : Nat} {x : α} (h : L2.ixN xs.length i = some n) (e : xs[n]? = some x) : L2.atI xs i = some x := by
  unfold L2.atI
  rw [h]
  exact e
theorem swp_stores {v1 i1 v2 j1 v3 j2 v4 i2 : Expr} {p1 p2 p3 p4 tp vp : Pos} {k1 k2 : Nat} (hb : X.env.blockKind = .function) : swappedStores [.Tuple [.Subscript v1 i1 p1, .Subscript v2 j1 p2] k1 tp] (.Tuple [.Subscript v3 j2 p3, .Subscript v4 i2 p4] k2 vp) X.env = pure none := by
  unfold swappedStores
  simp [hb, List.filterMap]
theorem pe_mvar (h : XOk Z px cm cst Φ gv k C X) (i : Nat) : ∀ pe, mVar C i pe = true → PE X pe (tVar i) := by
  intro pe hl
  unfold mVar at hl
  split at hl
  · rename_i x pos
    simp only [Bool.and_eq_true, decide_eq_true_eq, Bool.not_eq_true', decide_eq_false_iff_not] at hl
    obtain ⟨⟨⟨h1, h2⟩, h3⟩, h4⟩ := hl
    exact pe_var (i := i) (by rw [h.N]; exact h1) (vis_of h h2) (beq_eq_false_iff_ne.mpr h3) (beq_eq_false_iff_ne.mpr h4)
  · cases hl
theorem mup2 (m : Mu) (a : Nat) (o u : Option Ob) : mup (mup m a o) a u = mup m a u := by
  funext b
  unfold mup
  split <;> rfl
theorem snd_swp (h : XOk Z px cm cst Φ gv k C X) (hb : X.env.blockKind = .function) (v i j : Nat) : OkS Z X (mSwp (mVar C v) (mVar C i) (mVar C j)) (wS Φ gv cm px (.swp v i j)) 0 := by
  intro st hm
  rcases bool_cases cm with hcm | hcm
  case inr =>
    refine ps_no fun σ m nx rt hw => ?_
    have : cm = true := hw.1
    rw [hcm] at this
    cases this
  unfold mSwp at hm
  split at hm
  · rename_i v1 i1 sp1 v2 j1 sp2 tk tpos v3 j2 sp3 v4 i2 sp4 tk2 tpos2 pos
    simp only [Bool.and_eq_true] at hm
    obtain ⟨⟨⟨⟨⟨⟨⟨⟨⟨⟨⟨a1, a2⟩, a3⟩, a4⟩, b1⟩, b2⟩, c1⟩, c2⟩, d1⟩, d2⟩, d3⟩, d4⟩ := hm
    have hv := pe_mvar h v
    have hi := pe_mvar h i
    have hj := pe_mvar h j
    have q1 : PE X (.Subscript v3 j2 sp3) (tOp (rIxL X.K) (tVar v) (tVar j)) := pe_ix ix_list (hv v3 a3) (hj j2 c2) (plainIx_of d4)
    have q2 : PE X (.Subscript v4 i2 sp4) (tOp (rIxL X.K) (tVar v) (tVar i)) := pe_ix ix_list (hv v4 a4) (hi i2 b2) (plainIx_of d3)
    have htup : PE X (.Tuple [.Subscript v3 j2 sp3, .Subscript v4 i2 sp4] tk2 tpos2) (tTup (tCons (tOp (rIxL X.K) (tVar v) (tVar j)) (tCons (tOp (rIxL X.K) (tVar v) (tVar i)) tNil))) := pe_tup (pa_cons q1 (pa_cons q2 pa_nil rfl) rfl)
    have g1 : PG X (.Subscript v1 i1 sp1) (gSub (tVar v) (tVar i) rSetL) := pg_sub (hv v1 a1) (hi i1 b1) set_list (sub_asg d1)
    have g2 : PG X (.Subscript v2 j1 sp2) (gSub (tVar v) (tVar j) rSetL) := pg_sub (hv v2 a2) (hj j1 c1) set_list (sub_asg d2)
    have hpg : PG X (.Tuple [.Subscript v1 i1 sp1, .Subscript v2 j1 sp2] tk tpos) (gTup X.K 2 (gCons (gSub (tVar v) (tVar i) rSetL) (gCons (gSub (tVar v) (tVar j) rSetL) gNil))) := pg_tup (h.calm hcm) (pgs_cons g1 (pgs_cons g2 pgs_nil))
    refine PS.of (ps_asg htup hpg rfl (swp_stores hb)) ?_
    intro Dn s H q
    obtain ⟨W, m, σ, nx, rt, hw, S, L, hn, kn, kr⟩ := q
    obtain ⟨_, p, a, b, ds, n, kk, x, y, e1, e2, e3, e4, e5, e6, e7, e8, hq⟩ := hw
    obtain ⟨vs, x1, x2⟩ := S.bx p _ e4
    obtain ⟨vx, gx1, gx2⟩ := x2.get e7
    obtain ⟨vy, gy1, gy2⟩ := x2.get e8
    have hl : vs.length ≤ sizeLine := S.bd p _ (.inl x1)
    obtain ⟨w1, s1, r1⟩ := L.at_ v _ e1 rfl
    cases r1
    obtain ⟨w2, s2, r2⟩ := L.at_ i _ e2 rfl
    cases r2
    obtain ⟨w3, s3, r3⟩ := L.at_ j _ e3 rfl
    cases r3
    have i1' : L2.ixN vs.length a = some n := by rw [x2.length]; exact e5
    have i2' : L2.ixN vs.length b = some kk := by rw [x2.length]; exact e6
    refine ⟨_, s1, _, s3, p, vs, b, vy, rfl, rfl, .of x1, ix_at i2' gy1, _, s1, _, s2, p, vs, a, vx, rfl, rfl, .of x1, ix_at i1' gx1, by show 2 ≤ sizeLine; decide, fun T hT => ?_⟩
    have S1 := S.new (o := .tup [vy, vx]) hT (by show 2 ≤ sizeLine; decide)
    have st1 : Step W m H (W.new T (.tup [vy, vx])) m (upd H T (.tup [vy, vx])) 0 := Step.new S hT
    have hpT : p ≠ T := fun z => by rw [z, hT] at x1; cases x1
    have mle := le_new (W := W) (o := .tup [vy, vx]) (S.none hT).1
    obtain ⟨S2, st2⟩ := S1.wr (ds' := ds.set n y) (vs' := vs.set n vy) e4 (RepL.set n (RepL.mono mle _ x2) (Rep.mono mle _ gy2)) (by rw [List.length_set]; exact hl)
    have e4' : mup m p (some (.lst (ds.set n y))) p = some (.lst (ds.set n y)) := by unfold mup; rw [if_pos rfl]
    obtain ⟨S3, st3⟩ := S2.wr (ds' := (ds.set n y).set kk x) (vs' := (vs.set n vy).set kk vx) e4' (RepL.set kk (RepL.set n (RepL.mono mle _ x2) (Rep.mono mle _ gy2)) (Rep.mono mle _ gx2)) (by rw [List.length_set, List.length_set]; exact hl)
    refine ⟨T, [vy, vx], rfl, .inl (.inl upd_same), rfl, vy, [vx], rfl, _, s1, _, s2, p, vs, a, n, rfl, rfl, by rw [upd_ne hpT]; exact x1, i1', vx, [], rfl, _, s1, _, s3, p, vs.set n vy, b, kk, rfl, rfl, upd_same, by rw [List.length_set]; exact i2', rfl, ?_⟩
    rw [mup2] at S3 st3
    exact kn _ _ _ _ _ ((Step.trans S2 (Step.trans S1 st1 st2) st3).weak (by omega)) S3 (L.mono mle) hq
  · cases hm
theorem set_same {α : Type} {s : List α} {i : Nat} {v : α} (h : s[i]? = some v) : s.set i v = s := by
  apply List.ext_getElem?
  intro j
  by_cases hj : i = j
  · subst hj
    rw [List.getElem?_set_self (List.getElem?_eq_some_iff.mp h).1, h]
  · rw [List.getElem?_set_ne hj]
theorem frz_imp {i : Nat} {r : Ss} {Dn : Ends} {s : St} {H : Hp} (q : tS Z (wSs Φ gv cm px (.cons (.frz i) r)) (cSs cst (.cons (.frz i) r)) Dn s H) : tS Z (wSs Φ gv cm px r) (cSs cst r) Dn s H := by
  obtain ⟨W, m, σ, nx, rt, hw, S, L, hn, kn, kr⟩ := q
  have e0 : cSs cst (.cons (.frz i) r) = 0 + cSs cst r := rfl
  rw [e0] at hn kn kr
  have hw : wpS Φ gv cm (.frz i) σ m (kt px (fun σ2 m2 => wpSs Φ gv cm r σ2 m2 (kt px nx rt)) rt) := hw
  unfold wpS at hw
  split at hw
  · rename_i a e1
    split at hw
    · rename_i ds e2
      obtain ⟨W', S', st', r'⟩ := S.frz e2
      obtain ⟨v, e3, e4⟩ := L.at_ i _ e1 rfl
      cases e4
      have L' : SlotR Z W' (σ.set i (.lst ds)) s := by
        have := (L.mono st'.le).set (i := i) r'
        rw [set_same e3] at this
        exact this
      have n1 := st'.n
      refine ⟨W', _, _, nx, rt, hw, S', L', by omega, fun σ2 m2 s2 H2 W2 st2 S2 L2' q2 => kn σ2 m2 s2 H2 W2 (Step.trans S' st' st2) S2 L2' q2, fun d2 m2 v2 H2 W2 st2 S2 r2 q2 => kr d2 m2 v2 H2 W2 (Step.trans S' st' st2) S2 r2 q2⟩
    · exact hw.elim
  · exact ⟨W, m, σ, nx, rt, hw, S, L, by omega, fun σ2 m2 s2 H2 W2 st2 S2 L2' q2 => kn σ2 m2 s2 H2 W2 (st2.weak (by omega)) S2 L2' q2, fun d2 m2 v2 H2 W2 st2 S2 r2 q2 => kr d2 m2 v2 H2 W2 (st2.weak (by omega)) S2 r2 q2⟩
theorem snd_for (h : XOk Z px cm cst Φ gv k C X) (hp : PassesOwn (model X.prog X.w) X.A X.env X.xe) (p : Pt) {it : It} {b : Ss} {lit : Expr → Lk} {lb : List Stmt → Bool} (hi : OkI Z X lit (fun σ m Q => wpIt Φ gv cm it σ m Q (px.at σ)) (cIt cst it)) (hb : OkSs Z X lb (wSs Φ gv cm px b) (cSs cst b)) :
    OkS Z X (mFor (mPt C p) lit lb) (wS Φ gv cm px (.forr p it b)) (cIt cst it + line * cSs cst b) := by
  intro st hm
  rcases bool_cases cm with hcm | hcm
  case inr =>
    refine ps_no fun σ m nx rt hw => ?_
    have : cm = true := hw.1
    rw [hcm] at this
    cases this
  unfold mFor at hm
  split at hm
  · rename_i pp pit pb pos
    simp only [Bool.and_eq_true] at hm
    obtain ⟨⟨⟨h1, h2⟩, h3⟩, h4⟩ := hm
    refine PS.of (ps_for hp (h.calm hcm) (hi _ _ h2) (snd_pt h p pp (ptB_of hcm) h3) (hb _ h4) (foldedSet_of h1 _)) ?_
    intro Dn s H q
    obtain ⟨W, m, σ, nx, rt, hw, S, L, hn, kn, kr⟩ := q
    refine ⟨W, m, σ, _, hw.2, S, L, by omega, fun items gs m1 H1 W1 J st1 S1 wk hlen q1 => ?_⟩
    have q1 : forL gs p (wpSs Φ gv cm b) items σ m1 (kt px nx rt) := q1
    have n1 := st1.n
    obtain ⟨P, Y, wk, wP, wY⟩ := wk
    refine for_it wk (fun j s' H' => ∃ (W' : Kn) (m' : Mu) (σ' : Env), SRel Z W' m' H' ∧ SlotR Z W' σ' s' ∧ Step W1 m1 H1 W' m' H' (j * cSs cst b) ∧ forL gs p (wpSs Φ gv cm b) (items.drop j) σ' m' (kt px nx rt)) ?_ ?_ ?_ ?_
    · exact ⟨W1, m1, σ, S1, L.mono st1.le, Step.refl .., by simpa using q1⟩
    · rintro j s' H' hj ⟨W', m', σ', S', L', st', q'⟩
      refine wP W' m' H' st'.le S'.toSRel0 ?_
      cases hd : items.drop j with
      | nil => rw [hd] at q'; exact q'.1
      | cons _ _ => rw [hd] at q'; exact q'.1
    · rintro j x s' H' H'' hj ⟨W', m', σ', S', L', st', q'⟩ y
      have hd : items.drop j = items[j] :: items.drop (j + 1) := List.drop_eq_getElem_cons hj
      rw [hd] at q'
      obtain ⟨gd, σ2, hbd, q'⟩ := q'
      obtain ⟨d, W2, g1, g2, S20, st2⟩ := wY j H' x H'' W' m' hj st'.le S'.toSRel0 gd y
      have S2 := S'.step S20 st2
      have hdd : d = items[j] := by
        rw [List.getElem?_eq_getElem hj] at g1
        exact (Option.some.inj g1).symm
      subst hdd
      have nn1 := st'.n
      have nn2 := st2.n
      have hi2 : j < line := Nat.lt_of_lt_of_le hj hlen
      have hmul : j * cSs cst b + cSs cst b ≤ line * cSs cst b := by
        rw [← Nat.succ_mul]
        exact Nat.mul_le_mul_right _ hi2
      refine ⟨W2, m', _, σ', σ2, hbd, S2, L'.mono st2.le, g2, fun s2 L2' _ => ?_⟩
      have stA : Step W1 m1 H1 W2 m' H'' (j * cSs cst b + 0) := Step.trans S' st' st2
      refine ⟨W2, m', σ2, fun σ3 m3 => forL gs p (wpSs Φ gv cm b) (items.drop (j + 1)) σ3 m3 (kt px nx rt), rt, q', S2, L2', by omega, fun σ3 m3 s3 H3 W3 st3 S3 L3 q3 => ?_, fun d3 m3 v3 H3 W3 st3 S3 r3 q3 => ?_⟩
      · exact ⟨W3, m3, σ3, S3, L3, (Step.trans S2 stA st3).weak (by rw [Nat.succ_mul]; omega), q3⟩
      · exact kr d3 m3 v3 H3 W3 ((Step.trans S1 st1 (Step.trans S2 stA st3)).weak (by omega)) S3 r3 q3
    · rintro s' H' ⟨W', m', σ', S', L', st', q'⟩
      rw [List.drop_length] at q'
      have hmul : items.length * cSs cst b ≤ line * cSs cst b := Nat.mul_le_mul_right _ hlen
      exact kn σ' m' s' H' W' ((Step.trans S1 st1 st').weak (by omega)) S' L' q'.2
  · cases hm
theorem snd_whl (h : XOk Z px cm cst Φ gv k C X) (hp : PassesOwn (model X.prog X.w) X.A X.env X.xe) {t : E} {b : Ss} {lt : Lk} {lb : List Stmt → Bool} (ht : OkT Z X lt (fun σ m Q => wpT Φ gv cm t σ m Q (px.at σ)) (cE cst t)) (hb : OkSs Z X lb (wSs Φ gv cm px b) (cSs cst b)) :
    OkS Z X (mWhl lt lb) (wS Φ gv cm px (.whil t b)) (line * (cE cst t + cSs cst b)) := by
  intro st hm
  unfold mWhl at hm
  split at hm
  · obtain ⟨h1, h2⟩ := Bool.and_eq_true_iff.mp hm
    refine PS.of (ps_while hp (ht _ h1) (hb _ h2)) ?_
    intro Dn s H q
    obtain ⟨W, m, σ, nx, rt, hw, S, L, hn, kn, kr⟩ := q
    obtain ⟨n, hnl, hw⟩ := hw
    refine ⟨fun j s' H' => ∃ (W' : Kn) (m' : Mu) (σ' : Env), j ≤ n ∧ SRel Z W' m' H' ∧ SlotR Z W' σ' s' ∧ Step W m H W' m' H' ((n - j) * (cE cst t + cSs cst b)) ∧ whileN (fun σ2 m2 Q => wpT Φ gv cm t σ2 m2 Q (px.at σ2)) (wpSs Φ gv cm b) j σ' m' (kt px nx rt), ⟨n, W, m, σ, Nat.le_refl _, S, L, Step.refl .., hw⟩, ?_⟩
    rintro j s' H' ⟨W', m', σ', hj, S', L', st', q'⟩
    cases j with
    | zero => exact q'.elim
    | succ j =>
      have nn1 := st'.n
      have hmul : (n - (j + 1)) * (cE cst t + cSs cst b) + (cE cst t + cSs cst b) ≤ line * (cE cst t + cSs cst b) := by
        rw [← Nat.succ_mul]
        exact Nat.mul_le_mul_right _ (by omega)
      have hnj : n - j = n - (j + 1) + 1 := by omega
      refine ⟨W', m', σ', _, q', S', L', by omega, fun d m2 H2 W2 st2 S2 q2 => ?_⟩
      have nn2 := st2.n
      cases d with
      | false =>
        rw [if_neg Bool.false_ne_true] at q2
        refine iteF ?_
        exact kn σ' m2 s' H2 W2 ((Step.trans S' st' st2).weak (by omega)) S2 (L'.mono st2.le) q2
      | true =>
        rw [if_pos rfl] at q2
        refine iteT ?_
        refine ⟨fun s' H' => ∃ (W' : Kn) (m' : Mu) (σ' : Env), j ≤ n ∧ SRel Z W' m' H' ∧ SlotR Z W' σ' s' ∧ Step W m H W' m' H' ((n - j) * (cE cst t + cSs cst b)) ∧ whileN (fun σ2 m2 Q => wpT Φ gv cm t σ2 m2 Q (px.at σ2)) (wpSs Φ gv cm b) j σ' m' (kt px nx rt), fun s3 H3 q3 => ⟨j, Nat.lt_succ_self _, q3⟩, ?_⟩
        refine ⟨W2, m2, σ', fun σ3 m3 => whileN (fun σ2 m2 Q => wpT Φ gv cm t σ2 m2 Q (px.at σ2)) (wpSs Φ gv cm b) j σ3 m3 (kt px nx rt), rt, q2, S2, L'.mono st2.le, by omega, fun σ3 m3 s3 H3 W3 st3 S3 L3 q3 => ?_, fun d3 m3 v3 H3 W3 st3 S3 r3 q3 => ?_⟩
        · refine ⟨W3, m3, σ3, by omega, S3, L3, (Step.trans S2 (Step.trans S' st' st2) st3).weak ?_, q3⟩
          rw [hnj, Nat.succ_mul]
          omega
        · exact kr d3 m3 v3 H3 W3 ((Step.trans S2 (Step.trans S' st' st2) st3).weak (by omega)) S3 r3 q3
  · cases hm
theorem isFrz_some {s : S} {i : Nat} (h : isFrz s = some i) : s = .frz i := by
  cases s <;> first | (cases h; rfl) | cases h
end
section
variable {G : Gs} {cst : Nat → Nat} {Φ : Fs} {gv : Nat → D} {k : Nat}
mutual
theorem sndS : ∀ (s : S) (Z : Zs G) (px : PxE) (cm : Bool) (C : Ct) (X : Cx), XOk Z px cm cst Φ gv k C X → XFn X → OkS Z X (mS s C) (wS Φ gv cm px s) (cS cst s)
  | .asg (.nm i) e, Z, px, cm, C, X, h, f => snd_asgN h i (sndE e Z px cm C X h)
  | .asg (.tp ps) e, Z, px, cm, C, X, h, f => snd_asgT h ps (sndE e Z px cm C X h)
  | .asg (.tl _) _, Z, px, cm, C, X, h, f => fun _ q => by cases q
  | .box i (.lst es), Z, px, cm, C, X, h, f => snd_box h i (sndEs es Z px cm C X h)
  | .box i (.comp own elt p it c), Z, px, cm, C, X, h, f => snd_boxC h f.bk i own p
  | .box i (.sm .split a e), Z, px, cm, C, X, h, f => snd_boxS h i (sndE a Z px cm C X h) (sndE e Z px cm C X h)
  | .box i (.sm .join a e), Z, px, cm, C, X, h, f => fun _ q => by cases q
  | .box i (.sm .index a e), Z, px, cm, C, X, h, f => fun _ q => by cases q
  | .box i (.sm .upper a e), Z, px, cm, C, X, h, f => fun _ q => by cases q
  | .box i e, Z, px, cm, C, X, h, f => by
    cases e <;> first
      | (intro _ q; cases q; done)
      | exact snd_box h i (sndEs _ Z px cm C X h)
      | exact snd_boxC h f.bk i _ _
      | (rename_i g _ _; cases g <;> first
        | (intro _ q; cases q; done)
        | exact snd_boxS h i (sndE _ Z px cm C X h) (sndE _ Z px cm C X h))
  | .aug i o e, Z, px, cm, C, X, h, f => snd_aug h i o (sndE e Z px cm C X h)
  | .ex e, Z, px, cm, C, X, h, f => snd_ex (sndE e Z px cm C X h)
  | .ite t a b, Z, px, cm, C, X, h, f => snd_ite (sndT t Z px cm C X h) (sndSs a Z px cm C X h f) (sndSs b Z px cm C X h f)
  | .forr p it b, Z, px, cm, C, X, h, f => snd_for h f.ps p (sndIt it Z px cm C X h) (sndSs b Z px cm C X h f)
  | .whil t b, Z, px, cm, C, X, h, f => snd_whl h f.ps (sndT t Z px cm C X h) (sndSs b Z px cm C X h f)
  | .ret e, Z, px, cm, C, X, h, f => snd_ret (sndE e Z px cm C X h)
  | .ret0, Z, px, cm, C, X, h, f => snd_ret0
  | .pass, Z, px, cm, C, X, h, f => snd_pass
  | .app a e, Z, px, cm, C, X, h, f => snd_app h (sndE a Z px cm C X h) (sndE e Z px cm C X h)
  | .frz _, Z, px, cm, C, X, h, f => fun _ q => by cases q
  | .par i j a b, Z, px, cm, C, X, h, f => snd_par h f.bk i j (sndE a Z px cm C X h) (sndE b Z px cm C X h)
  | .asgc i e, Z, px, cm, C, X, h, f => by
    cases e <;> first
      | (intro _ q; cases q; done)
      | exact snd_asgC h f.bk i _ _
      | exact snd_asgC2 h f.bk i _ _ _ _
  | .raise c fo es, Z, px, cm, C, X, h, f => fun st hm => by
    have hm : ((fo.isSome || isStrEs es) && mRaise C c fo (mEs es C) st) = true := hm
    rw [Bool.and_eq_true] at hm
    exact snd_raise h c fo (sndEs es Z px cm C X h) hm.1 st hm.2
  | .star is r e, Z, px, cm, C, X, h, f => snd_star h is r (sndE e Z px cm C X h)
  | .unl is e, Z, px, cm, C, X, h, f => snd_unl h is (sndE e Z px cm C X h)
  | .swp v i j, Z, px, cm, C, X, h, f => snd_swp h f.bk v i j
  | .seti a i e, Z, px, cm, C, X, h, f => snd_seti h (sndE a Z px cm C X h) (sndE i Z px cm C X h) (sndE e Z px cm C X h)
  | .tryx b hs, Z, px, cm, C, X, h, f => snd_try h f (fun Z' px' X' h' f' => sndSs b Z' px' true C X' h' f') (fun hc => sndHs hs Z px cm C X h hc f)
theorem sndSs : ∀ (s : Ss) (Z : Zs G) (px : PxE) (cm : Bool) (C : Ct) (X : Cx), XOk Z px cm cst Φ gv k C X → XFn X → OkSs Z X (mSs s C) (wSs Φ gv cm px s) (cSs cst s)
  | .nil, Z, px, cm, C, X, h, f => sns_nil
  | .cons s r, Z, px, cm, C, X, h, f => by
    have h1 := sndS s Z px cm C X h f
    have h2 := sndSs r Z px cm C X h f
    intro ps hm
    unfold mSs at hm
    cases e : isFrz s with
    | some i =>
      rw [e] at hm
      have := isFrz_some e
      subst this
      exact PSs.of (h2 ps hm) fun Dn s H q => frz_imp q
    | none =>
      rw [e] at hm
      cases ps with
      | nil => cases hm
      | cons p ps =>
        obtain ⟨g1, g2⟩ := Bool.and_eq_true_iff.mp hm
        exact sns_cons h1 h2 p ps g1 g2
theorem sndHs : ∀ (hs : Hs) (Z : Zs G) (px : PxE) (cm : Bool) (C : Ct) (X : Cx), XOk Z px cm cst Φ gv k C X → cm = true → XFn X → OkH Z px cst Φ gv X (mHs hs C) hs
  | .nil, Z, px, cm, C, X, h, hc, f => snh_nil
  | .cons c i b r, Z, px, cm, C, X, h, hc, f => snh_cons h hc f c i (fun Z' X' h' f' => sndSs b Z' pF false C X' h' f') (sndHs r Z px cm C X h hc f)
end
end
end Pk

/-! Each def keeps its promise, level by level. -/
namespace Pk
open PySem L2 PyProof.Rows
def dropDoc : List Stmt → List Stmt
  | .Expr (.Constant (.str _) _ _) _ :: r => r
  | l => l
def scB (N ps : List Str) (sc : Scope) : Bool := decide (sc.kind = .function) && !sc.isCoroutine && !sc.isGenerator && decide (N.Nodup) && decide (N.take ps.length = ps)
  && ps.all (fun x => decide (sc.names.lookup x = some .local) || decide (sc.names.lookup x = some .cell)) && sc.names.all fun y => !decide (y.2 = .free)
theorem scB_ok {N ps : List Str} {sc : Scope} (h : scB N ps sc = true) : FnScope N ps sc := by
  unfold scB at h
  simp only [Bool.and_eq_true, decide_eq_true_eq, Bool.not_eq_true', List.all_eq_true, Bool.or_eq_true, decide_eq_false_iff_not] at h
  obtain ⟨⟨⟨⟨⟨⟨h1, h2⟩, h3⟩, h4⟩, h5⟩, h6⟩, h7⟩ := h
  exact ⟨h1, h2, h3, h4, h5, h6, fun y hy => h7 y hy⟩
/-- a def as it stands in a text -/
structure Df where
  f : Nat
  nm : Str
  st : Stmt
  ps : List Str
  N : List Str
  body : Ss
  dfl : List Cn := []
/-- the names a text uses: defs, constants, built-ins -/
structure Nms where
  fn : List (Nat × Str)
  gn : List (Nat × Str)
  bl : List Str
  df : List (Nat × List Cn) := []
  /-- exception classes: made, named; fields -/
  xc : List (Nat × Str × Option Nat) := []
  xn : List (Nat × Str) := []
  fl : List (Nat × Str) := []
  /-- own classes: fields, methods, what is made -/
  ofl : List (Nat × Str) := []
  omt : List (Nat × (Nat × Str)) := []
  omk : List (Nat × (Nat × Str)) := []
def Nms.ctN (n : Nms) (N : List Str) (sc : Scope) : Ct := { N := N, sc := sc, fn := fun _ => true, fnm := fun f => n.fn.lookup f, gnm := fun g => n.gn.lookup g, bl := n.bl, dfl := fun f => (n.df.lookup f).getD [], xc := fun c => n.xc.lookup c, xn := fun c => n.xn.lookup c, fl := fun f => n.fl.lookup f, ofl := fun f => n.ofl.lookup f, omt := fun f => n.omt.lookup f, omk := fun f => n.omk.lookup f }
def Nms.ct (n : Nms) (d : Df) : Ct := n.ctN d.N (defScope d.st)
/-- an own class's __init__ -/
structure Ki where
  f : Nat
  c : Nat
  cn : Str
  st : Stmt
  ps : List Str
  N : List Str
  is : List (Nat × E)
def mIni (C : Ct) : List (Nat × E) → List Stmt → Bool
  | [], [] => true
  | (f, e) :: r, .Assign [.Attribute (.Name x p) g _] pe _ :: ss => mVar C 0 (.Name x p) && decide (C.ofl f = some g) && mE e C pe && mIni C r ss
  | _, _ => false
def cIs (cst : Nat → Nat) : List (Nat × E) → Nat
  | [] => 0
  | (_, e) :: r => cE cst e + cIs cst r
def Ki.ok (n : Nms) (fs : List Nat) (d : Ki) : Bool := scB d.N d.ps (defScope d.st) && mIni (n.ctN d.N (defScope d.st)) d.is (dropDoc (defBody d.st)) && decide ((d.is.map (·.1)).Nodup) && d.is.all (fun p => fs.contains p.1) && decide (d.is.length < 900) && decide (0 < d.ps.length)
def Df.ok (n : Nms) (d : Df) : Bool := scB d.N d.ps (defScope d.st) && mSs d.body (n.ct d) (dropDoc (defBody d.st))
def Df.fd (d : Df) : FD := .df d.ps.length d.N.length d.body
theorem start_rel {G : Gs} {Z : Zs G} {W : Kn} {vs : List V} {ds : List D} (h : RepL G W vs ds) (N : List Str) : SlotR Z W (startE N.length ds) (start N vs) := by
  have hl := h.length
  have key : ∀ (i : Nat) (d : D), (startE N.length ds)[i]? = some d → d ≠ .un → ∃ v, (start N vs)[i]? = some (some v) ∧ Rep G W v d := by
    intro i d e u
    have e : (ds ++ List.replicate (N.length - ds.length) D.un)[i]? = some d := e
    show ∃ v, (vs.map some ++ List.replicate (N.length - vs.length) none)[i]? = some (some v) ∧ _
    by_cases hi : i < ds.length
    · rw [List.getElem?_append_left hi] at e
      obtain ⟨v, q1, q2⟩ := h.get e
      refine ⟨v, ?_, q2⟩
      rw [List.getElem?_append_left (by simp; omega)]
      simp [q1]
    · rw [List.getElem?_append_right (by omega)] at e
      obtain ⟨_, e2⟩ := List.mem_replicate.mp (List.mem_of_getElem? e)
      exact absurd e2 u
  refine ⟨?_, fun i c fs e => ?_, fun i d e u => key i d e fun z => by rw [z] at u; cases u⟩
  · show (ds ++ List.replicate (N.length - ds.length) D.un).length = (vs.map some ++ List.replicate (N.length - vs.length) none).length
    simp [hl]
  · obtain ⟨v, _, r⟩ := key i _ e (fun z => by cases z)
    cases r
/-- .. an exception handed in alone -/
theorem start_relX {G : Gs} {Z : Zs G} {W : Kn} {t : Xn} (N : List Str) (hz : Z.xs = some (0, t)) : SlotR Z W (startE N.length [.exn t.c t.fs]) (start N [.ref t.a]) := by
  have key : ∀ (i : Nat) (d : D), (startE N.length [.exn t.c t.fs])[i]? = some d → (i = 0 ∧ d = .exn t.c t.fs) ∨ d = .un := by
    intro i d e
    have e : ([D.exn t.c t.fs] ++ List.replicate (N.length - 1) D.un)[i]? = some d := e
    cases i with
    | zero =>
      have e : some (D.exn t.c t.fs) = some d := e
      exact .inl ⟨rfl, (Option.some.inj e).symm⟩
    | succ i =>
      rw [List.getElem?_append_right (by simp)] at e
      obtain ⟨_, e2⟩ := List.mem_replicate.mp (List.mem_of_getElem? e)
      exact .inr e2
  refine ⟨?_, fun i c fs e => ?_, fun i d e u => ?_⟩
  · show ([D.exn t.c t.fs] ++ List.replicate (N.length - 1) D.un).length = ([some (V.ref t.a)] ++ List.replicate (N.length - 1) none).length
    simp
  · rcases key i _ e with ⟨rfl, e2⟩ | e2
    · cases e2
      exact ⟨t, hz, rfl, rfl, rfl⟩
    · cases e2
  · rcases key i _ e with ⟨rfl, e2⟩ | e2
    · rw [e2] at u
      cases u
    · rw [e2] at u
      cases u
/-- where a def's body stands: at its entry -/
def Zs.at (G : Gs) (W : Kn) (m : Mu) (H : Hp) (c : Nat) : Zs G := { lim := W.n + c, en := fun W' m' H' => ∃ c', Step W m H W' m' H' c', cl := fun S ⟨_, a⟩ b => ⟨_, Step.trans0 S a b⟩ }
/-- .. with an exception in its first name -/
def Zs.atX (G : Gs) (W : Kn) (m : Mu) (H : Hp) (c : Nat) (S : SRel0 G W m H) (t : Xn) (r : RepX G W H ⟨t.c, t.fs⟩ (.ref (G.cls t.c)) t.d) (i : Nat) : Zs G where
  lim := W.n + c
  en W' m' H' := ∃ c', Step W m H W' m' H' c'
  cl S a b := by
    obtain ⟨_, a⟩ := a
    exact ⟨_, Step.trans0 S a b⟩
  xs := some (i, t)
  xd := by
    rintro W' m' H' S' ⟨c', st⟩ j u z
    cases z
    exact r.step S st
theorem okN {K : PySem.W.Frag} {x qual : Str} {params : Arguments} {body : List Stmt} {scope : Scope} {dvs : List V} {kws : List (Str × V)} {f : Addr} {fd : FuncData} {P : Program} {w : World} {mg : Str → Option Value} {base : Heap} {CX : CXT} {N ps : List Str} {k : Nat} {sp : List (Addr × Obj) → Sp}
    (F : FunD K x qual params body scope dvs kws f fd) (S : FnScope N ps scope) (len : ∀ pn vs H Q E, sp pn vs H Q E → vs.length = ps.length)
    (hbody : ∀ (cdv : Value) (A : Around) (outer : List PySem.Env) (s : Shared) (H : Hp) (vs : List V) (Q : VK) (E : XK) (pn : List (Addr × Obj)), L2H.RoomH k (A.deeper (envOfC qual scope s.heap.objs.size f cdv)) → sp pn vs H Q E →
      ∃ t, PSs (cxN CX P w K mg base N qual scope f cdv A outer s H E pn) body t ∧ t { nx := fun _ H' => Q .non H', rt := Q } (start N vs) H) : FnN P w K mg base CX (k + 1) f fd ps sp := by
  obtain ⟨oc, od, dV, kV, doc, pm, an, cdv, ct, osl, rfl, lk, hcd, _, _⟩ := F.ex
  exact fn_ofN lk hcd S len fun A outer s H vs Q E pn hr hsp => hbody cdv A outer s H vs Q E pn hr hsp
section
variable {P : Program} {w : World} {mg : Str → Option Value} {base : Heap} {G : Gs} {T : Tb} {gv : Nat → D} {cst : Nat → Nat} {n : Nms}
theorem body_doc {X : Cx} {b : List Stmt} {t : TS} (h : PSs X (dropDoc b) t) : ∃ t', PSs X b t' ∧ ∀ Dn s H, t Dn s H → t' Dn s H := by
  unfold dropDoc at h
  split at h
  · exact ⟨_, pss_cons ps_doc h, fun Dn s H q => q⟩
  · exact ⟨_, h, fun Dn s H q => q⟩
/-- what stands at a def's name -/
structure At (P : Program) (w : World) (mg : Str → Option Value) (base : Heap) (G : Gs) (Φ : Fs) (cst : Nat → Nat) (k f : Nat) (nm : Str) (cs : List Cn) : Prop where
  ex : ∃ (fa : Addr) (fd : FuncData) (ps : List Str), mg nm = some (.ref fa) ∧ PySem.W.keepIn G.K (.ref fa) = true ∧ FnOk P w G.K mg base (L2.CX P w) k fa fd ps (spD G Φ cst f) ∧ Binds G.K fd ps [] ∧ ∀ j, j < cs.length → ∃ us, Vals ((cs.drop j).map Cn.v) us ∧ Binds G.K fd ps us
  exN : ∃ (fa : Addr) (fd : FuncData) (ps : List Str), mg nm = some (.ref fa) ∧ PySem.W.keepIn G.K (.ref fa) = true ∧ FnN P w G.K mg base (L2.CX P w) k fa fd ps (spN G Φ cst f) ∧ Binds G.K fd ps [] ∧ ∀ j, j < cs.length → ∃ us, Vals ((cs.drop j).map Cn.v) us ∧ Binds G.K fd ps us
structure Env1 (P : Program) (w : World) (mg : Str → Option Value) (base : Heap) (G : Gs) (gv : Nat → D) (n : Nms) : Prop where
  glob : ∀ g nm, n.gn.lookup g = some nm → ∃ (u : Value) (v : V), mg nm = some u ∧ RelV v u ∧ ∀ W, Rep G W v (gv g)
  bl : ∀ x, n.bl.contains x = true → mg x = none
  ex : ExOk P w mg base G (fun c => n.xc.lookup c) (fun c => n.xn.lookup c) (fun f => n.fl.lookup f)
theorem no_false {c : Bool} {p : Prop} (h : c = true) (z : c = false) : p := by
  rw [h] at z
  cases z
/-- own classes, by the names of a text -/
abbrev Ow1 (P : Program) (w : World) (mg : Str → Option Value) (base : Heap) (G : Gs) (Φ : Fs) (cst : Nat → Nat) (k : Nat) (n : Nms) : Prop := OwOk P w mg base G Φ cst k (fun f => n.ofl.lookup f) (fun f => n.omt.lookup f) (fun f => n.omk.lookup f) (fun f => (n.df.lookup f).getD [])
/-! ### an own class's __init__ -/
theorem start_relU {G : Gs} {Z : Zs G} {W : Kn} {vs : List V} {ds : List D} {v0 : V} (h : RepL G W vs ds) (N : List Str) : SlotR Z W (startE N.length (.un :: ds)) (start N (v0 :: vs)) := by
  have hl := h.length
  have key : ∀ (i : Nat) (d : D), (startE N.length (.un :: ds))[i]? = some d → d ≠ .un → ∃ v, (start N (v0 :: vs))[i]? = some (some v) ∧ Rep G W v d := by
    intro i d e u
    have e : ((D.un :: ds) ++ List.replicate (N.length - (D.un :: ds).length) D.un)[i]? = some d := e
    show ∃ v, ((v0 :: vs).map some ++ List.replicate (N.length - (v0 :: vs).length) none)[i]? = some (some v) ∧ _
    by_cases hi : i < (D.un :: ds).length
    · rw [List.getElem?_append_left hi] at e
      rw [List.getElem?_append_left (by simp at hi ⊢; omega)]
      cases i with
      | zero =>
        cases e
        exact absurd rfl u
      | succ i =>
        obtain ⟨v, q1, q2⟩ := h.get (i := i) (by simpa using e)
        exact ⟨v, by simp [q1], q2⟩
    · rw [List.getElem?_append_right (by omega)] at e
      obtain ⟨_, e2⟩ := List.mem_replicate.mp (List.mem_of_getElem? e)
      exact absurd e2 u
  refine ⟨?_, fun i c fs e => ?_, fun i d e u => key i d e fun z => by rw [z] at u; cases u⟩
  · show ((D.un :: ds) ++ List.replicate (N.length - (D.un :: ds).length) D.un).length = ((v0 :: vs).map some ++ List.replicate (N.length - (v0 :: vs).length) none).length
    simp [hl]
  · obtain ⟨v, _, r⟩ := key i _ e (fun z => by cases z)
    cases r
theorem swap_attr {pe o : Expr} {f : Str} {p : Pos} {l : Nat} {env : PySem.Env} : swapsWith pe (some (.Attribute o f p)) l env = pure false := by
  cases pe <;> rfl
theorem ini_run {X : Cx} {C : Ct} {Φ : Fs} {k cc : Nat} {px : PxE} {W0 : Kn} {m0 : Mu} {H0 : Hp} (h : XOk (Zs.at G W0 m0 H0 cc) px true cst Φ gv k C X) {x dx : Addr} {c : Nat} (hc : c ∈ G.oc) (h0 : H0 x = none) (Qf : List (Nat × D) → Mu → Prop) : ∀ (is : List (Nat × E)) (ss : List Stmt), mIni C is ss = true → (is.map (·.1)).Nodup → (∀ p ∈ is, p.1 ∈ G.ofs c) →
    ∃ t, PSs X ss t ∧ ∀ (Dn : Ends) (W : Kn) (m : Mu) (σ : Env) (s : L2.St) (H : Hp) (fv : List (Str × V)) (acc : List (Nat × D)), wpI Φ gv is acc σ m Qf (px.at σ) → SRel (Zs.at G W0 m0 H0 cc) W m H → SlotR (Zs.at G W0 m0 H0 cc) W σ s → W.n + cIs cst is ≤ W0.n + cc → s[0]? = some (some (.ref x)) →
      H x = some (.ins (G.cls c) dx fv) → W.F x = none → m x = none → ¬ drA W x → RepO G W fv acc → (∀ p ∈ acc, p.1 ∈ G.ofs c ∧ p.1 ∉ is.map (·.1)) → fv.length + is.length < 1000 →
      (∀ fs m' H' W' fv', (∃ c', Step W0 m0 H0 W' m' H' c') → SRel0 G W' m' H' → W'.n ≤ W0.n + cc → H' x = some (.ins (G.cls c) dx fv') → W'.F x = none → m' x = none → ¬ drA W' x → RepO G W' fv' fs → (∀ p ∈ fs, p.1 ∈ G.ofs c) → Qf fs m' → Dn.nx s H') → t Dn s H
  | [], [], _, _, _ => by
    refine ⟨_, pss_nil, fun Dn W m σ s H fv acc hw S L hn hs hx hF hm hd hr hk hl kn => ?_⟩
    exact kn acc m H W fv S.en S.toSRel0 (by have : cIs cst [] = 0 := rfl; omega) hx hF hm hd hr (fun p hp => (hk p hp).1) hw
  | (f, e) :: r, .Assign [.Attribute (.Name y p) g q] pe pos :: ss, hmt, hnd, hof => by
    have hmt : (mVar C 0 (.Name y p) && decide (C.ofl f = some g) && mE e C pe && mIni C r ss) = true := hmt
    simp only [Bool.and_eq_true, decide_eq_true_eq] at hmt
    obtain ⟨⟨⟨h1, h2⟩, h3⟩, h4⟩ := hmt
    have hnd' := List.nodup_cons.mp (show (f :: r.map (·.1)).Nodup from hnd)
    obtain ⟨t2, ht2, hi⟩ := ini_run h hc h0 Qf r ss h4 hnd'.2 (fun p hp => hof p (List.mem_cons_of_mem _ hp))
    have eg := h.ow.fl f g h2
    refine ⟨_, pss_cons (ps_fld (pe_exn h h1) (sndE e _ _ true C X h pe h3) swap_attr) ht2, fun Dn W m σ s H fv acc hw S L hn hs hx hF hm hd hr hk hl kn => ?_⟩
    have ec : cIs cst ((f, e) :: r) = cE cst e + cIs cst r := rfl
    have hll : ((f, e) :: r).length = r.length + 1 := rfl
    refine ⟨W, m, σ, _, hw, S, L, by show W.n + cE cst e ≤ W0.n + cc; omega, fun d m1 v H1 W1 st1 S1 rd q1 => ?_⟩
    have n1 := st1.n
    have x1 := st1.kp x _ hx hm hd
    obtain ⟨x2, x3⟩ := st1.uk x _ hx hF hm hd
    have x4 : ¬ drA W1 x := fun z => hd (st1.dk x _ hx z)
    have hff : f ∈ G.ofs c := hof _ (List.mem_cons_self ..)
    obtain ⟨k1, k2⟩ := h.ow.cls c hc
    refine ⟨.ref x, hs, x, G.cls c, dx, fv, rfl, x1, by rw [h.K]; exact k1, by rw [h.K, ← eg]; exact k2 f hff, by omega, ?_⟩
    have hput := (RepO.mono st1.le hr).put (f := f) rd (fun p hp z => (hk p hp).2 (by
      rw [h.ow.inj c hc _ (hk p hp).1 f hff z]
      exact List.mem_cons_self ..))
    rw [eg] at hput
    have hlen := hput.len
    have hlen0 := hr.len
    rw [List.length_append] at hlen
    have hlen1 : ([(f, d)] : List (Nat × D)).length = 1 := rfl
    obtain ⟨cz, stz⟩ := S1.en
    refine hi Dn W1 m1 σ s _ _ (acc ++ [(f, d)]) q1 ⟨S1.toSRel0.wrO x1 x2 x3 x4 trivial, cz, stz.wrO h0⟩ (L.mono st1.le) (by omega) hs upd_same x2 x3 x4 hput (fun p hp => ?_) (by omega) kn
    rcases List.mem_append.mp hp with hp | hp
    · obtain ⟨z1, z2⟩ := hk p hp
      exact ⟨z1, fun z => z2 (List.mem_cons_of_mem _ z)⟩
    · have : p = (f, d) := by simpa using hp
      subst this
      exact ⟨hff, hnd'.1⟩
theorem ini_ok {k : Nat} (h2 : 2 ≤ k) {fa : Addr} {fd : FuncData} {Φ : Fs} {d : Ki} {qual : Str} {dvs : List V} {kws : List (Str × V)} (e1 : Env1 P w mg base G gv n) (hc : ∀ f nm, n.fn.lookup f = some nm → At P w mg base G Φ cst k f nm ((n.df.lookup f).getD [])) (ow : Ow1 P w mg base G Φ cst k n) (F : FunD G.K "__init__" qual (defArgs d.st) (defBody d.st) (defScope d.st) dvs kws fa fd)
    (ho : d.c ∈ G.oc) (ok : d.ok n (G.ofs d.c) = true) (hcst : cIs cst d.is ≤ cst d.f) (Φ' : Fs) (hΦ : ∀ vs m Q X, Φ' true d.f vs m Q X → vs.length + 1 = d.ps.length ∧ wpI Φ gv d.is [] (startE d.N.length (.un :: vs)) m (fun fs m1 => Q (.obj d.c fs) m1) X) :
    FnOk P w G.K mg base (L2.CX P w) (k + 1) fa fd d.ps (spK G Φ' cst d.c d.f) := by
  unfold Ki.ok at ok
  simp only [Bool.and_eq_true, decide_eq_true_eq] at ok
  obtain ⟨⟨⟨⟨⟨ok1, ok2⟩, ok3⟩, ok4⟩, ok5⟩, ok6⟩ := ok
  have S := scB_ok ok1
  refine F.ok S ?_ ?_
  · rintro vs H Q E ⟨x, dx, vs', W, m, ds, Q', X', H0, rfl, _, _, _, _, hw, _, r, _⟩
    have := (hΦ _ _ _ _ hw).1
    rw [List.length_cons, r.length]
    exact this
  · rintro cdv A outer s H vs Q E hr ⟨x, dx, vs', W, m, ds, Q', X', H0, rfl, z1, z2, z3, rfl, hw, S', r, hn, kq, kx⟩
    obtain ⟨hl, hw⟩ := hΦ _ _ _ _ hw
    have z4 : upd H0 dx (HO.own x) x = none := by rw [upd_ne (Ne.symm z3)]; exact z1
    obtain ⟨S1, _⟩ := S'.ext (o := .own x) z2 (fun _ => ⟨nofun, nofun, fun _ => nofun⟩)
    obtain ⟨S2, _⟩ := S1.ext (o := .ins (G.cls d.c) dx []) z4 (fun _ => ⟨nofun, nofun, fun _ => nofun⟩)
    obtain ⟨f1, f2, f3⟩ := S'.none z1
    have st0 : Step W m H0 W m (upd (upd H0 dx (.own x)) x (.ins (G.cls d.c) dx [])) 0 := ((Step.refl W m H0 0).wrO z2).wrO z1
    have X1 : XOk (Zs.at G W m H0 (cst d.f)) (fun x _ m => X' x m) true cst Φ gv k (n.ctN d.N (defScope d.st)) (cxOf (L2.CX P w) P w G.K mg base d.N qual (defScope d.st) fa cdv A outer s (upd (upd H0 dx (.own x)) x (.ins (G.cls d.c) dx [])) E) :=
      ⟨rfl, S.nd, rfl, fun _ _ => rfl, rfl, fun _ => rfl, fun _ => hr, L2H.roomH_of hr, hn, Takes.imp (takes_of rfl rfl rfl rfl) (by
        rintro cls dd st H' ⟨x, W', m', σ', S2, _, n2, rx, q⟩
        obtain ⟨c', st2⟩ := S2.en
        exact kx x m' H' W' cls dd (st2.cut n2) S2.toSRel0 rx q), no_false rfl, fun f nm h => (hc f nm h).ex, fun f nm h => (hc f nm h).exN, e1.glob, e1.bl, e1.ex, fun _ _ z => (by cases z), fun _ => rfl, fun _ _ _ => h2, ow⟩
    obtain ⟨t, ht, hi⟩ := ini_run (Φ := Φ) X1 (x := x) (dx := dx) ho z1 (fun fs m1 => Q' (.obj d.c fs) m1) d.is _ ok2 ok3 (fun p hp => List.contains_iff_mem.mp (List.all_eq_true.mp ok4 p hp))
    obtain ⟨t', ht', hi'⟩ := body_doc ht
    refine ⟨t', ht', hi' _ _ _ ?_⟩
    refine hi _ W m _ _ _ [] [] hw ⟨S2, 0, st0⟩ (start_relU r d.N) (by omega) rfl upd_same f1 f2 f3 .nil (fun _ z => by cases z) (by show 0 + _ < 1000; omega) ?_
    rintro fs m' H' W' fv' ⟨c', st⟩ S3 n3 hx hF hm hd hrO hk hq
    have st3 := (st.cut n3).fro (o := .ins (G.cls d.c) dx fv') z1 hF
    exact kq _ m' H' _ st3 (S3.fro hx hF hm hd) (.obj (by show upd W'.F x _ x = _; rw [upd_same]) ho hk (RepO.mono (le_new hF) hrO)) hq
theorem def_ok {k : Nat} (h2 : 2 ≤ k) {fa : Addr} {fd : FuncData} {Φ : Fs} {d : Df} {qual : Str} {dvs : List V} {kws : List (Str × V)} (e1 : Env1 P w mg base G gv n) (hc : ∀ f nm, n.fn.lookup f = some nm → At P w mg base G Φ cst k f nm ((n.df.lookup f).getD [])) (ow : Ow1 P w mg base G Φ cst k n) (F : FunD G.K d.nm qual (defArgs d.st) (defBody d.st) (defScope d.st) dvs kws fa fd)
    (ok : d.ok n = true) (hcst : cSs cst d.body ≤ cst d.f) (Φ' : Fs) (hΦ : ∀ vs m Q X, Φ' true d.f vs m Q X → vs.length = d.ps.length ∧ wpSs Φ gv true d.body (startE d.N.length vs) m (kt (fun x _ m => X x m) (fun _ m => Q .non m) Q)) :
    FnOk P w G.K mg base (L2.CX P w) (k + 1) fa fd d.ps (spD G Φ' cst d.f) := by
  obtain ⟨ok1, ok2⟩ := Bool.and_eq_true_iff.mp ok
  have S := scB_ok ok1
  refine F.ok S ?_ ?_
  · rintro vs H Q E ⟨W, m, ds, Q', X', hw, S', r, _⟩
    rw [r.length]
    exact (hΦ _ _ _ _ hw).1
  · rintro cdv A outer s H vs Q E hr ⟨W, m, ds, Q', X', hw, S', r, hn, kq, kx⟩
    obtain ⟨hl, hw⟩ := hΦ _ _ _ _ hw
    have X1 : XOk (Zs.at G W m H (cst d.f)) (fun x _ m => X' x m) true cst Φ gv k (n.ct d) (cxOf (L2.CX P w) P w G.K mg base d.N qual (defScope d.st) fa cdv A outer s H E) :=
      ⟨rfl, S.nd, rfl, fun _ _ => rfl, rfl, fun _ => rfl, fun _ => hr, L2H.roomH_of hr, hn, Takes.imp (takes_of rfl rfl rfl rfl) (by
        rintro cls dd st H' ⟨x, W', m', σ', S2, _, n2, rx, q⟩
        obtain ⟨c', st2⟩ := S2.en
        exact kx x m' H' W' cls dd (st2.cut n2) S2.toSRel0 rx q), no_false rfl, fun f nm h => (hc f nm h).ex, fun f nm h => (hc f nm h).exN, e1.glob, e1.bl, e1.ex, fun _ _ z => (by cases z), fun _ => rfl, fun _ _ _ => h2, ow⟩
    have hb : (cxOf (L2.CX P w) P w G.K mg base d.N qual (defScope d.st) fa cdv A outer s H E).env.blockKind = .function := by
      show (if (defScope d.st).kind.isAnnotationScope then ScopeKind.function else (defScope d.st).kind) = .function
      rw [S.kind]
      rfl
    obtain ⟨t, ht, hi⟩ := body_doc (sndSs d.body _ _ true (n.ct d) _ X1 ⟨hb, passes_of rfl, rfl, rfl⟩ _ ok2)
    refine ⟨t, ht, hi _ _ _ ?_⟩
    refine ⟨W, m, _, _, _, hw, ⟨S', 0, Step.refl ..⟩, start_rel r d.N, by show _ ≤ W.n + cst d.f; omega, fun σ' m' s' H' W' st1 S1 L1 q1 => ?_, fun d' m' v H' W' st1 S1 r1 q1 => ?_⟩
    · exact kq .non m' .non H' W' (st1.weak (by omega)) S1.toSRel0 .non q1
    · exact kq d' m' v H' W' (st1.weak (by omega)) S1.toSRel0 r1 q1
theorem def_okN {k : Nat} (h2 : 2 ≤ k) {fa : Addr} {fd : FuncData} {Φ : Fs} {d : Df} {qual : Str} {dvs : List V} {kws : List (Str × V)} (e1 : Env1 P w mg base G gv n) (hc : ∀ f nm, n.fn.lookup f = some nm → At P w mg base G Φ cst k f nm ((n.df.lookup f).getD [])) (ow : Ow1 P w mg base G Φ cst k n) (F : FunD G.K d.nm qual (defArgs d.st) (defBody d.st) (defScope d.st) dvs kws fa fd)
    (ok : d.ok n = true) (hcst : cSs cst d.body ≤ cst d.f) (Φ' : Fs) (hΦ : ∀ vs m Q X, Φ' false d.f vs m Q X → vs.length = d.ps.length ∧ wpSs Φ gv false d.body (startE d.N.length vs) m (kt (fun x _ m => X x m) (fun _ m => Q .non m) Q)) :
    FnN P w G.K mg base (L2.CX P w) (k + 1) fa fd d.ps (spN G Φ' cst d.f) := by
  obtain ⟨ok1, ok2⟩ := Bool.and_eq_true_iff.mp ok
  have S := scB_ok ok1
  refine okN F S ?_ ?_
  · rintro pn vs H Q E ⟨W, m, ds, Q', hw, S', r, _⟩
    have hl := (hΦ _ _ _ _ hw).1
    rcases r with r | ⟨t, oe, rfl, rfl, _⟩
    · rw [r.length]
      exact hl
    · exact hl
  · rintro cdv A outer s H vs Q E pn hr ⟨W, m, ds, Q', hw, S', r, hn, kq⟩
    obtain ⟨hl, hw⟩ := hΦ _ _ _ _ hw
    have hb : (cxN (L2.CX P w) P w G.K mg base d.N qual (defScope d.st) fa cdv A outer s H E pn).env.blockKind = .function := by
      show (if (defScope d.st).kind.isAnnotationScope then ScopeKind.function else (defScope d.st).kind) = .function
      rw [S.kind]
      rfl
    have go : ∀ Z : Zs G, Z.lim = W.n + cst d.f → Z.en W m H → SlotR Z W (startE d.N.length ds) (start d.N vs) → (∀ i t, Z.xs = some (i, t) → ∃ oe, (t.a, oe) ∈ pn ∧ Zc (.ref (G.cls t.c)) t.d oe ∧ ∃ fv, oe.data = .fields fv) →
        ∃ t, PSs (cxN (L2.CX P w) P w G.K mg base d.N qual (defScope d.st) fa cdv A outer s H E pn) (defBody d.st) t ∧ t { nx := fun _ H' => Q .non H', rt := Q } (start d.N vs) H := by
      intro Z hZ en L hx
      have X1 : XOk Z pF false cst Φ gv k (n.ct d) (cxN (L2.CX P w) P w G.K mg base d.N qual (defScope d.st) fa cdv A outer s H E pn) :=
        ⟨rfl, S.nd, rfl, fun _ _ => rfl, rfl, fun z => (by cases z), fun z => (by cases z), hr, by rw [hZ]; exact hn, takes_no rfl, fun _ => rfl, fun f nm h => (hc f nm h).ex, fun f nm h => (hc f nm h).exN, e1.glob, e1.bl, e1.ex, fun i t z => by
          obtain ⟨oe, q1, q2⟩ := hx i t z
          exact ⟨oe, q1, q2⟩, fun z => (by cases z), fun _ _ _ => h2, ow⟩
      obtain ⟨t, ht, hi⟩ := body_doc (sndSs d.body _ _ false (n.ct d) _ X1 ⟨hb, passes_of rfl, rfl, rfl⟩ _ ok2)
      refine ⟨t, ht, hi _ _ _ ?_⟩
      refine ⟨W, m, _, _, _, hw, ⟨S', en⟩, L, by omega, fun σ' m' s' H' W' st1 S1 L1 q1 => ?_, fun d' m' v H' W' st1 S1 r1 q1 => ?_⟩
      · exact kq .non m' .non H' W' (st1.weak (by omega)) S1.toSRel0 .non q1
      · exact kq d' m' v H' W' (st1.weak (by omega)) S1.toSRel0 r1 q1
    rcases r with r | ⟨t, oe, rfl, rfl, h1, h2, h3, h4⟩
    · exact go (Zs.at G W m H (cst d.f)) rfl ⟨0, Step.refl ..⟩ (start_rel r d.N) fun i t z => by cases z
    · refine go (Zs.atX G W m H (cst d.f) S' t h4 0) rfl ⟨0, Step.refl ..⟩ (start_relX d.N rfl) fun i u z => ?_
      cases z
      exact ⟨oe, h1, h2, h3⟩
theorem fn_zero {fa : Addr} {fd : FuncData} {ps : List Str} {k f : Nat} : FnOk P w G.K mg base (L2.CX P w) k fa fd ps (spD G (run T gv 0) cst f) := by
  refine ⟨fun vs H Q E q => ?_, fun A outer s H args us vs Q E _ _ _ _ q => ?_⟩
  · obtain ⟨W, m, ds, Q', X', hw, _⟩ := q
    exact hw.elim
  · obtain ⟨W, m, ds, Q', X', hw, _⟩ := q
    exact hw.elim
theorem fn_no {fa : Addr} {fd : FuncData} {ps : List Str} {k f : Nat} {Φ : Fs} (h : ∀ vs m Q X, Φ false f vs m Q X → False) : FnN P w G.K mg base (L2.CX P w) k fa fd ps (spN G Φ cst f) := by
  refine ⟨fun pn vs H Q E q => ?_, fun A outer s H args us vs Q E pn _ _ _ _ _ q => ?_⟩
  · obtain ⟨W, m, ds, Q', hw, _⟩ := q
    exact (h _ _ _ _ hw).elim
  · obtain ⟨W, m, ds, Q', hw, _⟩ := q
    exact (h _ _ _ _ hw).elim
/-- a def of the text, or one of the law's two draws -/
inductive Src (P : Program) (w : World) (mg : Str → Option Value) (base : Heap) (G : Gs) (T : Tb) (cst : Nat → Nat) (n : Nms) (f : Nat) (nm : Str) : Prop where
  | df (d : Df) {fa : Addr} {fd : FuncData} {qual : Str} {dvs : List V} {kws : List (Str × V)} : T f = some d.fd → d.f = f → mg nm = some (.ref fa) → FunD G.K d.nm qual (defArgs d.st) (defBody d.st) (defScope d.st) dvs kws fa fd → (Binds G.K fd d.ps [] ∧ ∀ j, j < ((n.df.lookup f).getD []).length → ∃ us, Vals ((((n.df.lookup f).getD []).drop j).map Cn.v) us ∧ Binds G.K fd d.ps us) → d.ok n = true → cSs cst d.body ≤ cst f → Src P w mg base G T cst n f nm
  | hand {fa : Addr} {fd : FuncData} {ps : List Str} : mg nm = some (.ref fa) → PySem.W.keepIn G.K (.ref fa) = true → (Binds G.K fd ps [] ∧ ∀ j, j < ((n.df.lookup f).getD []).length → ∃ us, Vals ((((n.df.lookup f).getD []).drop j).map Cn.v) us ∧ Binds G.K fd ps us) → (∀ k gv, FnOk P w G.K mg base (L2.CX P w) (k + 3) fa fd ps (spD G (run T gv (k + 1)) cst f)) → (∀ k gv vs m Q X, run T gv k false f vs m Q X → False) → Src P w mg base G T cst n f nm
theorem run_succ {k : Nat} {cm : Bool} {f : Nat} {vs : List D} {m : Mu} {Q : Pq} {X : Px} : run T gv (k + 1) cm f vs m Q X = (match T f with
    | some (.df np nn b) => vs.length = np ∧ wpSs (run T gv k) gv cm b (startE nn vs) m ⟨fun _ m => Q .non m, Q, fun x _ m => X x m⟩
    | some (.ini c np nn fs) => cm = true ∧ vs.length + 1 = np ∧ wpI (run T gv k) gv fs [] (startE nn (.un :: vs)) m (fun fs m1 => Q (.obj c fs) m1) X
    | some .start => cm = true ∧ startR vs m Q
    | some .draw => cm = true ∧ drawR vs m Q
    | none => False) := rfl
theorem fnN_mono {CX : CXT} {j k : Nat} {fa : Addr} {fd : FuncData} {ps : List Str} {sp : List (Addr × Obj) → Sp} (F : FnN P w G.K mg base CX j fa fd ps sp) (h : j ≤ k) : FnN P w G.K mg base CX k fa fd ps sp :=
  ⟨F.len, fun A outer s H args us vs Q E pn hr => F.run A outer s H args us vs Q E pn (hr.mono h)⟩
theorem fn_zeroK {fa : Addr} {fd : FuncData} {ps : List Str} {k f c : Nat} : FnOk P w G.K mg base (L2.CX P w) k fa fd ps (spK G (run T gv 0) cst c f) := by
  refine ⟨fun vs H Q E q => ?_, fun A outer s H args us vs Q E _ _ _ _ q => ?_⟩
  · obtain ⟨_, _, _, _, _, _, _, _, _, _, _, _, _, _, hw, _⟩ := q
    exact hw.elim
  · obtain ⟨_, _, _, _, _, _, _, _, _, _, _, _, _, _, hw, _⟩ := q
    exact hw.elim
/-- a method of an own class -/
inductive SrcM (P : Program) (w : World) (mg : Str → Option Value) (base : Heap) (G : Gs) (T : Tb) (cst : Nat → Nat) (n : Nms) (f c : Nat) (nm : Str) : Prop where
  | mk (d : Df) {fa : Addr} {fd : FuncData} {qual : Str} {dvs : List V} {kws : List (Str × V)} : T f = some d.fd → d.f = f → c ∈ G.oc → (∀ g ∈ G.ofs c, G.fld g ≠ nm) → L2.Meth G.K (G.cls c) nm fa → FunD G.K d.nm qual (defArgs d.st) (defBody d.st) (defScope d.st) dvs kws fa fd → (Binds G.K fd d.ps [] ∧ ∀ j, j < ((n.df.lookup f).getD []).length → ∃ us, Vals ((((n.df.lookup f).getD []).drop j).map Cn.v) us ∧ Binds G.K fd d.ps us) → d.ok n = true → cSs cst d.body ≤ cst f → SrcM P w mg base G T cst n f c nm
/-- an own class's __init__ -/
inductive SrcK (P : Program) (w : World) (mg : Str → Option Value) (base : Heap) (G : Gs) (T : Tb) (cst : Nat → Nat) (n : Nms) (f c : Nat) (nm : Str) : Prop where
  | mk (d : Ki) {fa : Addr} {fd : FuncData} {qual : Str} {dvs : List V} {kws : List (Str × V)} : T f = some (.ini d.c d.ps.length d.N.length d.is) → d.f = f → d.c = c → c ∈ G.oc → mg nm = some (.ref (G.cls c)) → L2.Mk G.K (G.cls c) fa → FunD G.K "__init__" qual (defArgs d.st) (defBody d.st) (defScope d.st) dvs kws fa fd → Binds G.K fd d.ps [] → d.ok n (G.ofs c) = true → cIs cst d.is ≤ cst f → SrcK P w mg base G T cst n f c nm
structure Ow0 (G : Gs) (n : Nms) : Prop where
  cls : ∀ c ∈ G.oc, L2.Cls G.K (G.cls c) ∧ ∀ f ∈ G.ofs c, L2.NoAttr G.K (G.cls c) (G.fld f)
  inj : ∀ c ∈ G.oc, ∀ f ∈ G.ofs c, ∀ g ∈ G.ofs c, G.fld f = G.fld g → f = g
  fl : ∀ f nm, n.ofl.lookup f = some nm → G.fld f = nm
structure Lev (P : Program) (w : World) (mg : Str → Option Value) (base : Heap) (G : Gs) (T : Tb) (gv : Nat → D) (cst : Nat → Nat) (n : Nms) (k : Nat) : Prop where
  at_ : ∀ f nm, n.fn.lookup f = some nm → At P w mg base G (run T gv k) cst (2 * k + 2) f nm ((n.df.lookup f).getD [])
  ow : Ow1 P w mg base G (run T gv k) cst (2 * k + 2) n
theorem level (e1 : Env1 P w mg base G gv n) (o0 : Ow0 G n) (hs : ∀ f nm, n.fn.lookup f = some nm → Src P w mg base G T cst n f nm) (hm : ∀ f c nm, n.omt.lookup f = some (c, nm) → SrcM P w mg base G T cst n f c nm) (hk : ∀ f c nm, n.omk.lookup f = some (c, nm) → SrcK P w mg base G T cst n f c nm) : ∀ k, Lev P w mg base G T gv cst n k
  | 0 => by
    refine ⟨fun f nm h => ?_, o0.cls, o0.inj, o0.fl, fun f c nm h => ?_, fun f c nm h => ?_⟩
    · cases hs f nm h with
      | df d h1 h2 h3 h4 h5 h6 h7 => exact ⟨⟨_, _, _, h3, h4.kp, fn_zero, h5⟩, ⟨_, _, _, h3, h4.kp, fn_no fun _ _ _ _ z => z.elim, h5⟩⟩
      | hand h1 h2 h3 h4 h5 => exact ⟨⟨_, _, _, h1, h2, fn_zero, h3⟩, ⟨_, _, _, h1, h2, fn_no fun _ _ _ _ z => z.elim, h3⟩⟩
    · cases hm f c nm h with
      | mk d h1 h2 h3 h4 h5 h6 h7 h8 h9 => exact ⟨h3, h4, _, _, _, h5, fn_zero, h7.1, h7.2⟩
    · cases hk f c nm h with
      | mk d h1 h2 h3 h4 h5 h6 h7 h8 h9 h10 => exact ⟨h4, h5, _, _, _, 1, rfl, h6, fn_zeroK, h8⟩
  | k + 1 => by
    have L := level e1 o0 hs hm hk k
    refine ⟨fun f nm h => ?_, o0.cls, o0.inj, o0.fl, fun f c nm h => ?_, fun f c nm h => ?_⟩
    · cases hs f nm h with
      | df d h1 h2 h3 h4 h5 h6 h7 =>
        subst h2
        refine ⟨⟨_, _, _, h3, h4.kp, (def_ok (by omega) e1 L.at_ L.ow h4 h6 h7 _ ?_).mono (by omega), h5⟩, ⟨_, _, _, h3, h4.kp, fnN_mono (def_okN (by omega) e1 L.at_ L.ow h4 h6 h7 _ ?_) (by omega), h5⟩⟩
        · intro vs m Q X q
          rw [run_succ, h1] at q
          exact q
        · intro vs m Q X q
          rw [run_succ, h1] at q
          exact q
      | hand h1 h2 h3 h4 h5 => exact ⟨⟨_, _, _, h1, h2, (h4 k gv).mono (by omega), h3⟩, ⟨_, _, _, h1, h2, fn_no fun vs m Q X q => h5 _ _ _ _ _ _ q, h3⟩⟩
    · cases hm f c nm h with
      | mk d h1 h2 h3 h4 h5 h6 h7 h8 h9 =>
        subst h2
        refine ⟨h3, h4, _, _, _, h5, (def_ok (by omega) e1 L.at_ L.ow h6 h8 h9 _ ?_).mono (by omega), h7.1, h7.2⟩
        intro vs m Q X q
        rw [run_succ, h1] at q
        exact q
    · cases hk f c nm h with
      | mk d h1 h2 h3 h4 h5 h6 h7 h8 h9 h10 =>
        subst h2 h3
        refine ⟨h4, h5, _, _, _, 2 * k + 3, by omega, h6, ini_ok (by omega) e1 L.at_ L.ow h7 h4 h9 h10 _ ?_, h8⟩
        intro vs m Q X q
        rw [run_succ, h1] at q
        exact q.2
end
end Pk

/-! The law's own draws: looks with the layer's plain readings. -/
namespace Pk
open PySem L2
abbrev OkR (X : Cx) (l : Lk) (t : TE) : Prop := ∀ pe, l pe = true → PE X pe t
abbrev OkRT (X : Cx) (l : Lk) (t : TT) : Prop := ∀ pe, l pe = true → PT X pe t
abbrev OkRA (X : Cx) (l : List Expr → Bool) (t : TA) : Prop := ∀ pe, l pe = true → PA X pe t
abbrev OkRS (X : Cx) (l : LkS) (t : TS) : Prop := ∀ pe, l pe = true → PS X pe t
abbrev OkRSs (X : Cx) (l : List Stmt → Bool) (t : TS) : Prop := ∀ pe, l pe = true → PSs X pe t
def rLenL (K : PySem.W.Frag) : List V → Hp → VK → Prop := fun xs H Q => ∃ p ys, xs = [.ref p] ∧ (SqL K H p ys ∨ SqT K H p ys) ∧ Q (.int ys.length) H
def lNil : List Expr → Bool := fun ps => ps.isEmpty
def lCons (l : Lk) (r : List Expr → Bool) : List Expr → Bool
  | [] => false
  | p :: ps => notStar p && l p && r ps
def lsNil : List Stmt → Bool := fun ps => ps.isEmpty
def lsCons (l : LkS) (r : List Stmt → Bool) : List Stmt → Bool
  | [] => false
  | p :: ps => l p && r ps
def mAugS (a : Lk) (i : Int) (e : Lk) : LkS
  | .AugAssign (.Subscript pa (.Constant (.int j) _ _) _) .Add pe _ => a pa && decide (i = j) && e pe
  | _ => false
def mSetS (a : Lk) (i : Int) (e : Lk) : LkS
  | .Assign [.Subscript pa (.Constant (.int j) _ _) _] pe _ => a pa && decide (i = j) && notComp pe && e pe
  | _ => false
def mPop (a e : Lk) : Lk
  | .Call (.Attribute pa x apos) [p] [] pos => decide (x = "pop") && decide (apos.endLine = pos.line) && notCall pa && notStar p && a pa && e p
  | _ => false
def mCallN (C : Ct) (nm : Str) (es : List Expr → Bool) : Lk
  | .Call (.Name x _) (p :: pes) [] _ => decide (x = nm) && glB C.sc x && notStar p && pes.all notStar && es (p :: pes)
  | _ => false
section
variable {G : Gs} {Z : Zs G} {cst : Nat → Nat} {Φ : Fs} {gv : Nat → D} {k : Nat} {C : Ct} {X : Cx}
theorem r_var (h : XOk Z pF true cst Φ gv k C X) (i : Nat) : OkR X (mVar C i) (tVar i) := by
  intro pe hl
  unfold mVar at hl
  split at hl
  · rename_i x pos
    simp only [Bool.and_eq_true, decide_eq_true_eq, Bool.not_eq_true', decide_eq_false_iff_not] at hl
    obtain ⟨⟨⟨h1, h2⟩, h3⟩, h4⟩ := hl
    exact pe_var (i := i) (by rw [h.N]; exact h1) (vis_of h h2) (beq_eq_false_iff_ne.mpr h3) (beq_eq_false_iff_ne.mpr h4)
  · cases hl
theorem r_int (b : Int) : OkR X (mInt b) (tC (.int b)) := by
  intro pe hl
  unfold mInt at hl
  split at hl
  · have e := of_decide_eq_true hl
    subst e
    exact pe_int
  · cases hl
theorem r_op2 (o : O2) {r : R2} {la lb : Lk} {ta tb : TE} (hr : OpR X (binaryOp (opP o)) r) (ha : OkR X la ta) (hb : OkR X lb tb) : OkR X (mOp2 o la lb) (tOp r ta tb) := by
  intro pe hl
  unfold mOp2 at hl
  split at hl
  · simp only [Bool.and_eq_true, decide_eq_true_eq] at hl
    obtain ⟨⟨h1, h2⟩, h3⟩ := hl
    subst h1
    exact pe_op hr (ha _ h2) (hb _ h3)
  · cases hl
theorem r_cmpT (c : C2) {r : R2} {la lb : Lk} {ta tb : TE} (hr : OpR X (compareOp (cpP c)) r) (ha : OkR X la ta) (hb : OkR X lb tb) : OkRT X (mCmp c la lb) (fun s H Q => tOp r ta tb s H fun v H1 => ∃ k, v = .bl k ∧ Q k H1) := by
  intro pe hl
  unfold mCmp at hl
  split at hl
  · simp only [Bool.and_eq_true, decide_eq_true_eq] at hl
    obtain ⟨⟨⟨h1, h2⟩, h3⟩, h4⟩ := hl
    subst h1
    exact PT.of (pt_cmpR hr (ha _ h3) (hb _ h4) (nomark_of h2)) fun s H QV q => q
  · cases hl
theorem r_ix {la lb : Lk} {ta tb : TE} (ha : OkR X la ta) (hb : OkR X lb tb) : OkR X (mIx la lb) (tOp (rIxL X.K) ta tb) := by
  intro pe hl
  unfold mIx at hl
  split at hl
  · simp only [Bool.and_eq_true] at hl
    obtain ⟨⟨h1, h2⟩, h3⟩ := hl
    exact pe_ix ix_list (ha _ h2) (hb _ h3) (plainIx_of h1)
  · cases hl
theorem r_truth {l : Lk} {t : TE} (hp : ∀ pe, l pe = true → plainT pe = true) (ha : OkR X l t) : OkRT X l (fun σ H Q => t σ H fun x H' => ∃ k, TruV X.K x H' k ∧ Q k H') :=
  fun pe hl => pt_truth (ha pe hl) (isTrue_plain_of (hp pe hl))
theorem r_andT {la lb : Lk} {ta tb : TT} (ha : OkRT X la ta) (hb : OkRT X lb tb) : OkRT X (mAnd la lb) (tAnd ta tb) := by
  intro pe hl
  unfold mAnd at hl
  split at hl
  · obtain ⟨h1, h2⟩ := Bool.and_eq_true_iff.mp hl
    split at h2
    · exact (pw_and (ha _ h1) (pw_and1 (hb _ h2))).pt
    · exact (pw_and (ha _ h1) (pw_of (hb _ h2))).pt
  · cases hl
theorem ra_nil : OkRA X lNil tNil := by
  intro pes hl
  cases pes with
  | nil => exact pa_nil
  | cons _ _ => cases hl
theorem ra_cons {l : Lk} {r : List Expr → Bool} {t : TE} {u : TA} (he : OkR X l t) (hr : OkRA X r u) : OkRA X (lCons l r) (tCons t u) := by
  intro pes hl
  cases pes with
  | nil => cases hl
  | cons p ps =>
    have hl' : (notStar p && l p && r ps) = true := hl
    simp only [Bool.and_eq_true] at hl'
    obtain ⟨⟨h1, h2⟩, h3⟩ := hl'
    exact pa_cons (he _ h2) (hr _ h3) (star1 h1)
theorem r_lst {l : List Expr → Bool} {t : TA} (h : OkRA X l t) : OkR X (mLst l) (tLst t) := by
  intro pe hl
  unfold mLst at hl
  split at hl
  · obtain ⟨h1, h2⟩ := Bool.and_eq_true_iff.mp hl
    exact pe_lst (h _ h2)
  · cases hl
theorem r_len (h : XOk Z pF true cst Φ gv k C X) {l : List Expr → Bool} {t : TA} (he : OkRA X l t) : OkR X (mBi C .len l) (tCB (rLenL X.K) t) := by
  intro pe hm
  unfold mBi at hm
  split at hm
  · simp only [Bool.and_eq_true, decide_eq_true_eq] at hm
    obtain ⟨⟨⟨⟨h1, h2⟩, h3⟩, h4⟩, h5⟩ := hm
    subst h1
    obtain ⟨g1, g2, g3⟩ := bl_of h h2
    exact pe_callB call_len_seq g1 g3 boot_len (he _ h5) (by decide) g2 (star1 h3) (star_plain h4)
  · cases hm
theorem r_callN (h : XOk Z pF true cst Φ gv k C X) {nm : Str} {fa : Addr} {fd : FuncData} {ps : List Str} {sp : Sp} {l : List Expr → Bool} {t : TA} (q1 : X.mg nm = some (.ref fa)) (q2 : PySem.W.keepIn X.K (.ref fa) = true) (q3 : FnOk X.prog X.w X.K X.mg X.base (L2.CX X.prog X.w) k fa fd ps sp) (q4 : Binds X.K fd ps []) (he : OkRA X l t) :
    OkR X (mCallN C nm l) (tCall sp [] E0 t) := by
  intro pe hm
  unfold mCallN at hm
  split at hm
  · simp only [Bool.and_eq_true, decide_eq_true_eq] at hm
    obtain ⟨⟨⟨⟨h1, h2⟩, h3⟩, h4⟩, h5⟩ := hm
    subst h1
    obtain ⟨g1, g2⟩ := gl_of h h2
    exact pe_call q3 (h.room rfl) g1 q1 q2 q4 .nil passL (he _ h5) g2 (star1 h3) (star_plain h4)
  · cases hm
theorem r_pop {la le : Lk} {ta te : TE} (ha : OkR X la ta) (he : OkR X le te) : OkR X (mPop la le) (tBM X.K "list" rPopAt ta (tCons te tNil)) := by
  intro pe hm
  unfold mPop at hm
  split at hm
  · simp only [Bool.and_eq_true, decide_eq_true_eq] at hm
    obtain ⟨⟨⟨⟨⟨h1, h2⟩, h3⟩, h4⟩, h5⟩, h6⟩ := hm
    subst h1
    exact pe_bm PySem.F.plainAttrs_list PySem.F.slot_list_pop PySem.F.type_list_pop mt_popAt (ha _ h5) (pa_cons (he _ h6) pa_nil (star1 h4)) (attr_of h3 _ _) (by rw [star1 h4]; rfl) (beq_iff_eq.mpr h2) (star1 h4) rfl
  · cases hm
/-! ### statements -/
theorem pget_list : PGet X (rIxL X.K) := by
  intro pins s σ H x y v u Q I rx ry h
  obtain ⟨p, xs, i, z, rfl, rfl, hq, he, q⟩ := h
  cases rx
  obtain ⟨t, rfl⟩ := ry
  obtain ⟨its, r, pl, hz⟩ := I.list hq
  obtain ⟨j, h1, h2, h3, h4, h5⟩ := atI_get he
  obtain ⟨w, ew, rw'⟩ := r.get h2
  have hl := r.length
  have hn := line63
  have fin : EP X pins σ Q w s := ⟨z, H, I, rw', q⟩
  by_cases h0 : 0 ≤ i
  · have hj : i.toNat = j := by
      rw [seqIndex_of h0 h5] at h1
      exact Option.some.inj h1
    exact wpAny_getItem_list pl.isList h0 (by omega) (by rw [hj]; simpa using ew) fin
  · have hj : (i + (its.toArray.size : Int)).toNat = j := by
      rw [seqIndex_neg (by omega) h4] at h1
      rw [List.size_toArray, ← hl]
      exact Option.some.inj h1
    exact wpAny_getItem_list_neg pl.isList (by omega) (by rw [List.size_toArray] <;> omega) (by omega) (by rw [hj]; simpa using ew) fin
theorem rs_aug {a e : Lk} (i : Int) {ta te : TE} (ha : OkR X a ta) (he : OkR X e te) : OkRS X (mAugS a i e) (tAugS ta (tC (.int i)) te (rIxL X.K) (ipI fun i j => i + j) rSetL) := by
  intro st hm
  unfold mAugS at hm
  split at hm
  · simp only [Bool.and_eq_true] at hm
    obtain ⟨⟨h1, h2⟩, h3⟩ := hm
    have h2 := of_decide_eq_true h2
    subst h2
    exact ps_augS (ha _ h1) pe_int pget_list (he _ h3) ip_add set_list
  · cases hm
theorem rs_set {a e : Lk} (i : Int) {ta te : TE} (ha : OkR X a ta) (he : OkR X e te) : OkRS X (mSetS a i e) (tAsg te (gSub ta (tC (.int i)) rSetL)) := by
  intro st hm
  unfold mSetS at hm
  split at hm
  · rename_i pa j kk cp sp pe pos
    simp only [Bool.and_eq_true] at hm
    obtain ⟨⟨⟨h1, h2⟩, h3⟩, h4⟩ := hm
    have h2 := of_decide_eq_true h2
    subst h2
    have hs2 : swapsWithSole [.Subscript pa (.Constant (.int i) kk cp) sp] pe pos.line X.env = pure false := swap_none (t := some (.Subscript pa (.Constant (.int i) kk cp) sp)) (l := pos.line) (env := X.env) h3
    exact ps_asg (he _ h4) (pg_sub (ha _ h1) pe_int set_list) hs2
  · cases hm
theorem rs_asg (h : XOk Z pF true cst Φ gv k C X) (i : Nat) {e : Lk} {te : TE} (he : OkR X e te) : OkRS X (mAsgN C i e) (tAsg te (gName i)) := by
  intro st hm
  unfold mAsgN at hm
  split at hm
  · simp only [Bool.and_eq_true, decide_eq_true_eq] at hm
    obtain ⟨⟨⟨h1, h2⟩, h4⟩, h3⟩ := hm
    obtain ⟨l1, l2⟩ := loc_of h h2
    exact ps_set (by rw [h.N]; exact h.nd) (by rw [h.N]; exact h1) l1 (he _ h3) (swap_none h4) l2
  · cases hm
theorem rs_ite {t : Lk} {a b : List Stmt → Bool} {tt : TT} {ta tb : TS} (ht : OkRT X t tt) (ha : OkRSs X a ta) (hb : OkRSs X b tb) : OkRS X (mIte t a b) (tIfS tt ta tb) := by
  intro st hm
  unfold mIte at hm
  split at hm
  · simp only [Bool.and_eq_true] at hm
    obtain ⟨⟨h1, h2⟩, h3⟩ := hm
    exact ps_if (ht _ h1) (ha _ h2) (hb _ h3)
  · cases hm
theorem rs_whl (hp : PassesOwn (model X.prog X.w) X.A X.env X.xe) {t : Lk} {a : List Stmt → Bool} {tt : TT} {ta : TS} (ht : OkRT X t tt) (ha : OkRSs X a ta) : OkRS X (mWhl t a) (tWhile tt ta) := by
  intro st hm
  unfold mWhl at hm
  split at hm
  · obtain ⟨h1, h2⟩ := Bool.and_eq_true_iff.mp hm
    exact ps_while hp (ht _ h1) (ha _ h2)
  · cases hm
theorem rs_ret {e : Lk} {te : TE} (he : OkR X e te) : OkRS X (mRet e) (tRet te) := by
  intro st hm
  unfold mRet at hm
  split at hm
  · exact ps_ret (he _ hm)
  · cases hm
theorem rss_nil : OkRSs X lsNil tNext := by
  intro sts hm
  cases sts with
  | nil => exact pss_nil
  | cons _ _ => cases hm
theorem rss_cons {l : LkS} {r : List Stmt → Bool} {t u : TS} (h1 : OkRS X l t) (h2 : OkRSs X r u) : OkRSs X (lsCons l r) (tSeq t u) := by
  intro sts hm
  cases sts with
  | nil => cases hm
  | cons p ps =>
    obtain ⟨g1, g2⟩ := Bool.and_eq_true_iff.mp (show (l p && r ps) = true from hm)
    exact pss_cons (h1 _ g1) (h2 _ g2)
end
/-- a context for the law's own draws: nothing is called by our language, nothing leaves -/
def Zs.nil (G : Gs) : Zs G := { lim := 0, en := fun _ _ _ => True, cl := fun _ _ _ => trivial }
theorem xok_bare {G : Gs} {X : Cx} {C : Ct} {k : Nat} (hN : X.N = C.N) (nd : C.N.Nodup) (sc : X.env.scope = C.sc) (fn : ∀ x, C.fn x = true → X.fn x = true) (K : X.K = G.K) (calm : X.calm = true) (room : Room k X.A) (hf : C.fnm = fun _ => none) (hg : C.gnm = fun _ => none) (bl : ∀ x, C.bl.contains x = true → X.mg x = none) (hx : C.xc = (fun _ => none) ∧ C.xn = (fun _ => none) ∧ C.fl = (fun _ => none) := by exact ⟨rfl, rfl, rfl⟩) (hoc : G.oc = [] := by rfl) (hy : C.ofl = (fun _ => none) ∧ C.omt = (fun _ => none) ∧ C.omk = (fun _ => none) := by exact ⟨rfl, rfl, rfl⟩) :
    XOk (Zs.nil G) pF true (fun _ => 0) (fun _ _ _ _ _ _ => False) (fun _ => .non) k C X :=
  ⟨hN, nd, sc, fn, K, fun _ => calm, fun _ => room, L2H.roomH_of room, Nat.zero_le _, takes_no rfl, (fun z => by cases z), fun f nm e => by (rw [hf] at e; cases e), fun f nm e => by (rw [hf] at e; cases e), fun g nm e => by (rw [hg] at e; cases e), bl, by rw [hx.1, hx.2.1, hx.2.2]; exact ExOk.nil, fun _ _ z => (by cases z), fun _ => rfl, fun c z e => by (rw [hx.1] at e; cases e), ⟨fun c q => by (rw [hoc] at q; cases q), fun c q => by (rw [hoc] at q; cases q), fun f nm e => by (rw [hy.1] at e; cases e), fun f c nm e => by (rw [hy.2.1] at e; cases e), fun f c nm e => by (rw [hy.2.2] at e; cases e)⟩⟩
end Pk

/-! The stirring of the law's script. -/
namespace Pk
open PySem L2
def CPowB (i j : Int) : Prop := 0 ≤ j ∧ (Builtin.Int.intBits i : Int) * j ≤ 2 ^ 27
theorem op_powB {X : Cx} : OpR X (binaryOp .Pow) (rI CPowB fun i j => .int (i ^ j.toNat)) := opI fun _ _ _ _ _ _ _ hc q => PyProof.Rows.pow_int hc.1 hc.2 q
def rAdd : R2 := rI0 fun i j => .int (i + j)
def rMul : R2 := rI CMul fun i j => .int (i * j)
def rMod : R2 := rI (fun _ j => 0 < j) fun i j => .int (i % j)
def rPow : R2 := rI CPowB fun i j => .int (i ^ j.toNat)
def lkMix (C : Ct) : List Stmt → Bool :=
  lsCons (mAugS (mVar C 0) 3 (mInt 1)) <|
  lsCons (mAsgN C 1 (mIx (mVar C 0) (mInt 3))) <|
  lsCons (mAsgN C 2 (mInt 5)) <|
  lsCons (mIte (mIx (mVar C 0) (mInt 2)) (lsCons (mAsgN C 2 (mIx (mIx (mVar C 0) (mInt 2)) (mOp2 .mod (mVar C 1) (mBi C .len (lCons (mIx (mVar C 0) (mInt 2)) lNil))))) lsNil) lsNil) <|
  lsCons (mAsgN C 3 (mOp2 .mod (mOp2 .pow (mOp2 .add (mOp2 .add (mVar C 2) (mOp2 .mul (mInt 7919) (mVar C 1))) (mInt 104729)) (mInt 5)) (mInt 2147483647))) <|
  lsCons (mRet (mOp2 .mod (mOp2 .mul (mOp2 .add (mOp2 .add (mVar C 3) (mOp2 .mul (mInt 17) (mVar C 1))) (mInt 3)) (mInt 39373)) (mInt 1000000007)))
  lsNil
def tGetI (K : PySem.W.Frag) (i : Int) : TE := tOp (rIxL K) (tVar 0) (tC (.int i))
def tTr (K : PySem.W.Frag) (t : TE) : TT := fun σ H Q => t σ H fun x H' => ∃ k, TruV K x H' k ∧ Q k H'
def tMixA (K : PySem.W.Frag) : TS := tSeq (tIfS (tTr K (tGetI K 2)) (tSeq (tAsg (tOp (rIxL K) (tGetI K 2) (tOp rMod (tVar 1) (tCB (rLenL K) (tCons (tGetI K 2) tNil)))) (gName 2)) tNext) tNext) <|
  tSeq (tAsg (tOp rMod (tOp rPow (tOp rAdd (tOp rAdd (tVar 2) (tOp rMul (tC (.int 7919)) (tVar 1))) (tC (.int 104729))) (tC (.int 5))) (tC (.int 2147483647))) (gName 3)) <|
  tSeq (tRet (tOp rMod (tOp rMul (tOp rAdd (tOp rAdd (tVar 3) (tOp rMul (tC (.int 17)) (tVar 1))) (tC (.int 3))) (tC (.int 39373))) (tC (.int 1000000007)))) tNext
def tMix (K : PySem.W.Frag) : TS :=
  tSeq (tAugS (tVar 0) (tC (.int 3)) (tC (.int 1)) (rIxL K) (ipI fun i j => i + j) rSetL) <|
  tSeq (tAsg (tGetI K 3) (gName 1)) <|
  tSeq (tAsg (tC (.int 5)) (gName 2)) (tMixA K)
theorem mix_walk {G : Gs} {Z : Zs G} {cst : Nat → Nat} {Φ : Fs} {gv : Nat → D} {k : Nat} {C : Ct} {X : Cx} (h : XOk Z pF true cst Φ gv k C X) : OkRSs X (lkMix C) (tMix X.K) := by
  have i0 : ∀ i, OkR X (mIx (mVar C 0) (mInt i)) (tGetI X.K i) := fun i => r_ix (r_var h 0) (r_int i)
  refine rss_cons (rs_aug 3 (r_var h 0) (r_int 1)) <| rss_cons (rs_asg h 1 (i0 3)) <| rss_cons (rs_asg h 2 (r_int 5)) <| rss_cons (rs_ite (r_truth pT_ix (i0 2)) (rss_cons (rs_asg h 2 (r_ix (i0 2) (r_op2 .mod op_mod (r_var h 1) (r_len h (ra_cons (i0 2) ra_nil))))) rss_nil) rss_nil) <| rss_cons (rs_asg h 3 ?_) <| rss_cons (rs_ret ?_) rss_nil
  · exact r_op2 .mod op_mod (r_op2 .pow op_powB (r_op2 .add op_add (r_op2 .add op_add (r_var h 2) (r_op2 .mul op_mul (r_int _) (r_var h 1))) (r_int _)) (r_int _)) (r_int _)
  · exact r_op2 .mod op_mod (r_op2 .mul op_mul (r_op2 .add op_add (r_op2 .add op_add (r_var h 3) (r_op2 .mul op_mul (r_int _) (r_var h 1))) (r_int _)) (r_int _)) (r_int _)
def spMix : Sp := fun vs H Q _ => ∃ (t : Addr × Addr × Addr) (gs cs : List Int) (cur : Int) (cnt : Nat), vs = [.ref t.1] ∧ DrAt H LIM t gs cs cur cnt ∧ cnt + 1 ≤ LIM ∧ t.1 ≠ t.2.2 ∧
  ∀ r : Int, 0 ≤ r → r < 1000000007 → Q (.int r) (upd H t.1 (.lst [.ref t.2.1, .int cur, .ref t.2.2, .int ((cnt + 1 : Nat) : Int)]))
theorem lim_pow : 2147483629 + 7919 * LIM + 104729 < 2 ^ 1020 := by decide +kernel
theorem mix_tail {K : PySem.W.Frag} {a g c : Addr} {cs : List Int} {cur : Int} {cnt : Nat} {H : Hp} {Dn : Ends} (h1 : H a = some (.lst [.ref g, .int cur, .ref c, .int ((cnt : Nat) : Int)])) (h2 : H c = some (.lst (cs.map V.int))) (hc : cnt ≤ LIM) (cc : ∀ k ∈ cs, 0 ≤ k ∧ k < 2147483629) (cl : cs.length ≤ 63)
    (hq : ∀ r : Int, 0 ≤ r → r < 1000000007 → Dn.rt (.int r) H) : tMixA K Dn [some (.ref a), some (.int ((cnt : Nat) : Int)), some (.int 5), none] H := by
  have fin : ∀ x : Int, 0 ≤ x → x < 2147483629 → tSeq (tAsg (tOp rMod (tOp rPow (tOp rAdd (tOp rAdd (tVar 2) (tOp rMul (tC (.int 7919)) (tVar 1))) (tC (.int 104729))) (tC (.int 5))) (tC (.int 2147483647))) (gName 3))
      (tSeq (tRet (tOp rMod (tOp rMul (tOp rAdd (tOp rAdd (tVar 3) (tOp rMul (tC (.int 17)) (tVar 1))) (tC (.int 3))) (tC (.int 39373))) (tC (.int 1000000007)))) tNext) Dn [some (.ref a), some (.int ((cnt : Nat) : Int)), some (.int x), none] H := by
    intro x hx0 hx1
    refine ⟨_, rfl, _, rfl, _, _, rfl, rfl, .inl (by decide), _, _, rfl, rfl, _, _, rfl, rfl, _, _, rfl, rfl, ⟨by decide, ?_⟩, _, _, rfl, rfl, (show (0 : Int) < 2147483647 by decide), ?_⟩
    · have e : x + 7919 * ((cnt : Nat) : Int) + 104729 = ((x.toNat + 7919 * cnt + 104729 : Nat) : Int) := by omega
      have hb : (x + 7919 * ((cnt : Nat) : Int) + 104729).natAbs < 2 ^ 1020 := by
        rw [e, Int.natAbs_natCast]
        refine Nat.lt_of_le_of_lt ?_ lim_pow
        omega
      have := PyProof.Rows.intBits_le hb
      have e5 : (2 : Int) ^ 27 = 134217728 := by decide
      rw [e5]
      omega
    refine ⟨_, rfl, _, rfl, _, _, rfl, rfl, .inl (by decide), _, _, rfl, rfl, _, _, rfl, rfl, _, _, rfl, rfl, .inr (by decide), _, _, rfl, rfl, (show (0 : Int) < 1000000007 by decide), ?_⟩
    exact hq _ (Int.emod_nonneg _ (by decide)) (Int.emod_lt_of_pos _ (by decide))
  refine ⟨_, rfl, _, _, _, _, rfl, rfl, .of h1, rfl, _, .inl ⟨_, .of h2, rfl⟩, ?_⟩
  cases cs with
  | nil =>
    refine iteF ?_
    exact fin 5 (by decide) (by decide)
  | cons c0 cs =>
    refine iteT ?_
    have hl : ((c0 :: cs).map V.int).length = cs.length + 1 := by simp
    have hpos : (0 : Int) < ((((c0 :: cs).map V.int).length : Nat) : Int) := by rw [hl]; omega
    have m0 := Int.emod_nonneg ((cnt : Nat) : Int) (Int.ne_of_gt hpos)
    have m1 := Int.emod_lt_of_pos ((cnt : Nat) : Int) hpos
    obtain ⟨j, hj⟩ : ∃ j : Nat, ((cnt : Nat) : Int) % ((((c0 :: cs).map V.int).length : Nat) : Int) = (j : Int) := ⟨_, (Int.toNat_of_nonneg m0).symm⟩
    have hj2 : j < (c0 :: cs).length := by
      rw [hj, hl] at m1
      simp
      omega
    have hat : L2.atI ((c0 :: cs).map V.int) (((cnt : Nat) : Int) % ((((c0 :: cs).map V.int).length : Nat) : Int)) = some (.int (c0 :: cs)[j]) := by
      rw [hj]
      unfold L2.atI L2.ixN
      rw [if_pos (by omega), if_pos (by simp; simp at hj2; omega)]
      show (((c0 :: cs).map V.int))[j]? = _
      rw [List.getElem?_map, List.getElem?_eq_getElem hj2]
      rfl
    refine ⟨_, rfl, _, _, _, _, rfl, rfl, .of h1, rfl, _, rfl, _, rfl, _, _, _, _, rfl, rfl, .of h1, rfl, _, _, rfl, .inl (.of h2), _, _, rfl, rfl, hpos, _, _, _, _, rfl, rfl, .of h2, hat, ?_⟩
    exact fin _ (cc _ (List.getElem_mem hj2)).1 (cc _ (List.getElem_mem hj2)).2
theorem pure_mix {K : PySem.W.Frag} (N : List Str) (hN : N.length = 4) (vs : List V) (H : Hp) (Q : VK) (E : XK) (h : spMix vs H Q E) : tMix K { nx := fun _ H' => Q .non H', rt := Q } (start N vs) H := by
  obtain ⟨⟨a, g, c⟩, gs, cs, cur, cnt, rfl, d, hn, hac, hq⟩ := h
  have hs : start N [V.ref a] = [some (.ref a), none, none, none] := by
    unfold L2.start
    rw [hN]
    rfl
  show tMix K _ (start N [V.ref a]) H
  rw [hs]
  have ha := d.a
  have hc := d.c
  refine ⟨_, rfl, _, _, _, _, rfl, rfl, .of ha, rfl, _, _, rfl, rfl, _, _, _, _, rfl, rfl, ha, rfl, ?_⟩
  refine ⟨_, rfl, _, _, _, _, rfl, rfl, .of upd_same, rfl, ?_⟩
  have hc' : upd H a (.lst ([V.ref g, .int cur, .ref c, .int (cnt : Int)].set 3 (.int ((cnt : Int) + 1)))) c = some (.lst (cs.map V.int)) := by
    rw [upd_ne (fun z => hac z.symm)]
    exact hc
  refine mix_tail (g := g) (cur := cur) (cs := cs) (cnt := cnt + 1) ?_ hc' hn d.cc d.cl fun r h0 h1 => hq r h0 h1
  exact upd_same
theorem mix_ok {P : Program} {w : World} {mg : Str → Option Value} {base : Heap} {G : Gs} {k : Nat} {fa : Addr} {fd : FuncData} {nm qual : Str} {st : Stmt} {N ps : List Str} {bl : List Str} (hbl : ∀ x, bl.contains x = true → mg x = none)
    (F : FunD G.K nm qual (defArgs st) (defBody st) (defScope st) [] [] fa fd) (S : scB N ps (defScope st) = true) (hN : N.length = 4) (hps : ps.length = 1)
    (hl : lkMix { N := N, sc := defScope st, fn := fun _ => true, fnm := fun _ => none, gnm := fun _ => none, bl := bl } (defBody st) = true) : FnOk P w G.K mg base (L2.CX P w) (k + 1) fa fd ps spMix := by
  have S := scB_ok S
  refine F.ok S ?_ ?_
  · rintro vs H Q E ⟨t, gs, cs, cur, cnt, rfl, _⟩
    rw [hps]
    rfl
  · rintro cdv A outer s H vs Q E hr h
    have X1 : XOk (Zs.nil { G with oc := [] }) pF true (fun _ => 0) (fun _ _ _ _ _ _ => False) (fun _ => .non) k { N := N, sc := defScope st, fn := fun _ => true, fnm := fun _ => none, gnm := fun _ => none, bl := bl } (cxOf (L2.CX P w) P w G.K mg base N qual (defScope st) fa cdv A outer s H E) :=
      xok_bare rfl S.nd rfl (fun _ _ => rfl) rfl rfl hr rfl rfl hbl
    exact ⟨_, mix_walk X1 _ hl, pure_mix N hN vs H Q E h⟩
end Pk

/-! The law's draw. -/
namespace Pk
open PySem L2
def rDiv : R2 := rI CDivW fun i j => .int (i / j)
def rLt : R2 := rI0 fun i j => .bl (decide (i < j))
def rGt : R2 := rI0 fun i j => .bl (decide (j < i))
def tCmpT (r : R2) (ta tb : TE) : TT := fun s H Q => tOp r ta tb s H fun v H1 => ∃ k, v = .bl k ∧ Q k H1
def lkDraw (C : Ct) (nm : Str) : List Stmt → Bool :=
  lsCons (mIte (mAnd (mCmp .eq (mIx (mVar C 0) (mInt 1)) (mInt 0)) (mIx (mVar C 0) (mInt 0))) (lsCons (mSetS (mVar C 0) 1 (mPop (mIx (mVar C 0) (mInt 0)) (mInt 0))) lsNil) lsNil) <|
  lsCons (mIte (mCmp .gt (mIx (mVar C 0) (mInt 1)) (mInt 0)) (lsCons (mAsgN C 2 (mOp2 .mod (mIx (mVar C 0) (mInt 1)) (mVar C 1))) (lsCons (mSetS (mVar C 0) 1 (mOp2 .fdiv (mIx (mVar C 0) (mInt 1)) (mVar C 1))) (lsCons (mRet (mVar C 2)) lsNil))) lsNil) <|
  lsCons (mAsgN C 2 (mInt 0)) <| lsCons (mAsgN C 3 (mInt 1)) <|
  lsCons (mWhl (mCmp .lt (mVar C 3) (mVar C 1)) (lsCons (mAsgN C 2 (mOp2 .add (mOp2 .mul (mVar C 2) (mInt 1000000007)) (mCallN C nm (lCons (mVar C 0) lNil)))) (lsCons (mAsgN C 3 (mOp2 .mul (mVar C 3) (mInt 1000000007))) lsNil))) <|
  lsCons (mRet (mOp2 .mod (mVar C 2) (mVar C 1))) lsNil
def tDrawC : TS := tSeq (tWhile (tCmpT rLt (tVar 3) (tVar 1)) (tSeq (tAsg (tOp rAdd (tOp rMul (tVar 2) (tC (.int 1000000007))) (tCall spMix [] E0 (tCons (tVar 0) tNil))) (gName 2)) (tSeq (tAsg (tOp rMul (tVar 3) (tC (.int 1000000007))) (gName 3)) tNext))) <|
  tSeq (tRet (tOp rMod (tVar 2) (tVar 1))) tNext
def tDrawB (K : PySem.W.Frag) : TS := tSeq (tIfS (tCmpT rGt (tGetI K 1) (tC (.int 0))) (tSeq (tAsg (tOp rMod (tGetI K 1) (tVar 1)) (gName 2)) (tSeq (tAsg (tOp rDiv (tGetI K 1) (tVar 1)) (gSub (tVar 0) (tC (.int 1)) rSetL)) (tSeq (tRet (tVar 2)) tNext))) tNext) <|
  tSeq (tAsg (tC (.int 0)) (gName 2)) <| tSeq (tAsg (tC (.int 1)) (gName 3)) tDrawC
def tDraw (K : PySem.W.Frag) : TS := tSeq (tIfS (tAnd (tCmpT rEq (tGetI K 1) (tC (.int 0))) (tTr K (tGetI K 0))) (tSeq (tAsg (tBM K "list" rPopAt (tGetI K 0) (tCons (tC (.int 0)) tNil)) (gSub (tVar 0) (tC (.int 1)) rSetL)) tNext) tNext) (tDrawB K)
theorem draw_walk {G : Gs} {Z : Zs G} {cst : Nat → Nat} {Φ : Fs} {gv : Nat → D} {k : Nat} {C : Ct} {X : Cx} (h : XOk Z pF true cst Φ gv k C X) (hp : PassesOwn (model X.prog X.w) X.A X.env X.xe) {nm : Str} {fa : Addr} {fd : FuncData} {ps : List Str} (q1 : X.mg nm = some (.ref fa)) (q2 : PySem.W.keepIn X.K (.ref fa) = true) (q3 : FnOk X.prog X.w X.K X.mg X.base (L2.CX X.prog X.w) k fa fd ps spMix) (q4 : Binds X.K fd ps []) :
    OkRSs X (lkDraw C nm) (tDraw X.K) := by
  have i0 : ∀ i, OkR X (mIx (mVar C 0) (mInt i)) (tGetI X.K i) := fun i => r_ix (r_var h 0) (r_int i)
  refine rss_cons (rs_ite (r_andT (r_cmpT .eq op_eq (i0 1) (r_int 0)) (r_truth pT_ix (i0 0))) (rss_cons (rs_set 1 (r_var h 0) (r_pop (i0 0) (r_int 0))) rss_nil) rss_nil) <|
    rss_cons (rs_ite (r_cmpT .gt op_gt (i0 1) (r_int 0)) (rss_cons (rs_asg h 2 (r_op2 .mod op_mod (i0 1) (r_var h 1))) (rss_cons (rs_set 1 (r_var h 0) (r_op2 .fdiv op_fdivW (i0 1) (r_var h 1))) (rss_cons (rs_ret (r_var h 2)) rss_nil))) rss_nil) <|
    rss_cons (rs_asg h 2 (r_int 0)) <| rss_cons (rs_asg h 3 (r_int 1)) <|
    rss_cons (rs_whl hp (r_cmpT .lt op_lt (r_var h 3) (r_var h 1)) (rss_cons (rs_asg h 2 (r_op2 .add op_add (r_op2 .mul op_mul (r_var h 2) (r_int _)) (r_callN h q1 q2 q3 q4 (ra_cons (r_var h 0) ra_nil)))) (rss_cons (rs_asg h 3 (r_op2 .mul op_mul (r_var h 3) (r_int _))) rss_nil))) <|
    rss_cons (rs_ret (r_op2 .mod op_mod (r_var h 2) (r_var h 1))) rss_nil
/-- what a draw leaves: the heap but the state's two lists as it was -/
structure DrT (H : Hp) (t : Addr × Addr × Addr) (cs : List Int) (cnt : Nat) (H' : Hp) : Prop where
  fr : ∀ b, b ≠ t.1 → b ≠ t.2.1 → H' b = H b
  at_ : ∃ gs cur cnt', cnt' ≤ cnt + 9 ∧ DrAt H' LIM t gs cs cur cnt'
def spDraw : Sp := fun vs H Q _ => ∃ (t : Addr × Addr × Addr) (gs cs : List Int) (cur : Int) (cnt : Nat) (many : Int), vs = [.ref t.1, .int many] ∧ DrAt H LIM t gs cs cur cnt ∧ cnt + 9 ≤ LIM ∧ (t.1 ≠ t.2.1 ∧ t.1 ≠ t.2.2 ∧ t.2.1 ≠ t.2.2) ∧ 1 ≤ many ∧ many ≤ 10 ^ 70 ∧
  ∀ (r : Int) (H' : Hp), 0 ≤ r → r < many → DrT H t cs cnt H' → Q (.int r) H'
theorem draw_tail {t : Addr × Addr × Addr} {gs cs : List Int} {cur : Int} {cnt : Nat} {many : Int} {H0 H : Hp} {Dn : Ends} (d : DrAt H LIM t gs cs cur cnt) (hc : cnt + 9 ≤ LIM) (ht : t.1 ≠ t.2.1 ∧ t.1 ≠ t.2.2 ∧ t.2.1 ≠ t.2.2) (hm : 1 ≤ many) (hm2 : many ≤ 10 ^ 70) (fr : ∀ b, b ≠ t.1 → b ≠ t.2.1 → H b = H0 b)
    (hq : ∀ (r : Int) (H' : Hp), 0 ≤ r → r < many → DrT H0 t cs cnt H' → Dn.rt (.int r) H') : tDrawC Dn [some (.ref t.1), some (.int many), some (.int 0), some (.int 1)] H := by
  refine ⟨fun m σ H' => ∃ (i : Nat) (told : Int) (cnt' : Nat), m = 9 - i ∧ i ≤ 8 ∧ cnt' ≤ cnt + i ∧ 0 ≤ told ∧ told < 1000000007 ^ i ∧ σ = [some (.ref t.1), some (.int many), some (.int told), some (.int (1000000007 ^ i))] ∧ DrAt H' LIM t gs cs cur cnt' ∧ (∀ b, b ≠ t.1 → b ≠ t.2.1 → H' b = H0 b),
    ⟨9, 0, 0, cnt, rfl, by omega, by omega, by omega, by decide, rfl, d, fr⟩, ?_⟩
  rintro m σ H' ⟨i, told, cnt', rfl, hi, hcn, t0, t1, rfl, d', fr'⟩
  refine ⟨_, rfl, _, rfl, _, _, rfl, rfl, _, rfl, ?_⟩
  by_cases hlt : (1000000007 : Int) ^ i < many
  · rw [decide_eq_true hlt]
    refine iteT ?_
    have hi8 : i < 8 := by
      refine Nat.lt_of_not_le fun z => ?_
      have e : i = 8 := by omega
      subst e
      have e1 : (10 : Int) ^ 70 ≤ 1000000007 ^ 8 := by decide +kernel
      omega
    refine ⟨fun σ H' => ∃ (j : Nat) (told : Int) (cnt' : Nat), j = i + 1 ∧ cnt' ≤ cnt + j ∧ 0 ≤ told ∧ told < 1000000007 ^ j ∧ σ = [some (.ref t.1), some (.int many), some (.int told), some (.int (1000000007 ^ j))] ∧ DrAt H' LIM t gs cs cur cnt' ∧ (∀ b, b ≠ t.1 → b ≠ t.2.1 → H' b = H0 b), ?_, ?_⟩
    · rintro σ2 H2 ⟨j, told2, cnt2, rfl, a1, a2, a3, a4, a5, a6⟩
      exact ⟨9 - (i + 1), by omega, i + 1, told2, cnt2, rfl, by omega, a1, a2, a3, a4, a5, a6⟩
    · refine ⟨_, rfl, _, _, rfl, rfl, .inr (by decide), _, rfl, t, gs, cs, cur, cnt', rfl, d', by omega, ht.2.1, fun r r0 r1 => ?_⟩
      have hpow : (1000000007 : Int) ^ (i + 1) = 1000000007 ^ i * 1000000007 := Int.pow_succ ..
      refine ⟨_, _, rfl, rfl, _, rfl, _, _, rfl, rfl, .inr (by decide), i + 1, told * 1000000007 + r, cnt' + 1, rfl, by omega, by omega, by omega, by rw [hpow]; rfl, ?_, ?_⟩
      · refine ⟨upd_same, ?_, ?_, d'.cu, d'.cb, d'.gb, d'.gl, d'.cc, d'.cl, by omega⟩
        · rw [upd_ne ht.1.symm]
          exact d'.g
        · rw [upd_ne ht.2.1.symm]
          exact d'.c
      · intro b h1 h2
        rw [upd_ne h1]
        exact fr' b h1 h2
  · rw [decide_eq_false hlt]
    refine iteF ?_
    refine ⟨_, rfl, _, rfl, _, _, rfl, rfl, (show (0 : Int) < many by omega), ?_⟩
    exact hq _ H' (Int.emod_nonneg _ (by omega)) (Int.emod_lt_of_pos _ (by omega)) ⟨fr', gs, cur, cnt', by omega, d'⟩
theorem bits_div {a b : Int} (h0 : 0 ≤ a) (h1 : 1 ≤ b) : Builtin.Int.intBits (a / b) ≤ Builtin.Int.intBits a := by
  have h2 : 0 ≤ a / b := Int.ediv_nonneg h0 (by omega)
  have h3 : (a / b).natAbs ≤ a.natAbs := by
    have := Int.ediv_le_self b h0
    omega
  unfold Builtin.Int.intBits
  split
  · omega
  · rename_i hz
    have hz' : (a / b).natAbs ≠ 0 := fun z => hz (by rw [Int.natAbs_eq_zero.mp z]; rfl)
    rw [if_neg (by
      intro z
      have : a = 0 := eq_of_beq z
      rw [this] at h3
      simp at h3
      exact hz' (by rw [this]; simpa using h3))]
    have h4 := Nat.log2_self_le hz'
    have h5 : a.natAbs ≠ 0 := fun z => hz' (by omega)
    have h6 := (Nat.le_log2 h5).mpr (Nat.le_trans h4 h3)
    omega
theorem draw_mid {K : PySem.W.Frag} {t : Addr × Addr × Addr} {gs cs : List Int} {cur : Int} {cnt : Nat} {many : Int} {H0 H : Hp} {Dn : Ends} (d : DrAt H LIM t gs cs cur cnt) (hc : cnt + 9 ≤ LIM) (ht : t.1 ≠ t.2.1 ∧ t.1 ≠ t.2.2 ∧ t.2.1 ≠ t.2.2) (hm : 1 ≤ many) (hm2 : many ≤ 10 ^ 70) (fr : ∀ b, b ≠ t.1 → b ≠ t.2.1 → H b = H0 b)
    (hq : ∀ (r : Int) (H' : Hp), 0 ≤ r → r < many → DrT H0 t cs cnt H' → Dn.rt (.int r) H') : tDrawB K Dn [some (.ref t.1), some (.int many), none, none] H := by
  refine ⟨_, rfl, _, _, _, _, rfl, rfl, .of d.a, rfl, _, _, rfl, rfl, _, rfl, ?_⟩
  by_cases hp : (0 : Int) < cur
  · rw [decide_eq_true hp]
    refine iteT ?_
    refine ⟨_, rfl, _, _, _, _, rfl, rfl, .of d.a, rfl, _, rfl, _, _, rfl, rfl, (show (0 : Int) < many by omega), ?_⟩
    refine ⟨_, rfl, _, _, _, _, rfl, rfl, .of d.a, rfl, _, rfl, _, _, rfl, rfl, ⟨by omega, ?_⟩, _, rfl, _, _, _, _, rfl, rfl, d.a, rfl, _, rfl, ?_⟩
    · have h70 : (10 : Int) ^ 70 < 2 ^ 240 := by decide +kernel
      have h9 : many.natAbs < 2 ^ 240 := by
        have e : ((2 : Nat) ^ 240 : Nat) = (2 : Int) ^ 240 := by norm_cast
        omega
      have := Nat.log2_lt (n := many.natAbs) (k := 240) (by omega)
      have := this.mpr h9
      omega
    · refine hq _ _ (Int.emod_nonneg _ (by omega)) (Int.emod_lt_of_pos _ (by omega)) ⟨fun b h1 h2 => ?_, gs, cur / many, cnt, by omega, ?_⟩
      · rw [upd_ne h1]
        exact fr b h1 h2
      · refine ⟨upd_same, ?_, ?_, Int.ediv_nonneg d.cu (by omega), Nat.le_trans (bits_div d.cu hm) d.cb, d.gb, d.gl, d.cc, d.cl, d.n⟩
        · rw [upd_ne ht.1.symm]
          exact d.g
        · rw [upd_ne ht.2.1.symm]
          exact d.c
  · rw [decide_eq_false hp]
    refine iteF ?_
    exact draw_tail d hc ht hm hm2 fr hq
theorem pure_draw {K : PySem.W.Frag} (N : List Str) (hN : N.length = 4) (vs : List V) (H : Hp) (Q : VK) (E : XK) (h : spDraw vs H Q E) : tDraw K { nx := fun _ H' => Q .non H', rt := Q } (L2.start N vs) H := by
  obtain ⟨t, gs, cs, cur, cnt, many, rfl, d, hc, ht, hm, hm2, hq⟩ := h
  have hs : L2.start N [V.ref t.1, V.int many] = [some (.ref t.1), some (.int many), none, none] := by
    unfold L2.start
    rw [hN]
    rfl
  rw [hs]
  refine ⟨_, rfl, _, _, _, _, rfl, rfl, .of d.a, rfl, rfl, _, rfl, ?_⟩
  have ec : decide (V.int cur = V.int 0) = (cur == 0) := dec_int
  by_cases h0 : cur = 0
  · subst h0
    rw [show decide (V.int 0 = V.int 0) = true from rfl]
    refine iteT ?_
    refine ⟨_, rfl, _, _, _, _, rfl, rfl, .of d.a, rfl, _, .inl ⟨_, .of d.g, rfl⟩, ?_⟩
    cases gs with
    | nil =>
      refine iteF ?_
      exact draw_mid d hc ht hm hm2 (fun _ _ _ => rfl) hq
    | cons g0 gs =>
      refine iteT ?_
      refine ⟨_, rfl, _, _, _, _, rfl, rfl, .of d.a, rfl, .inl ⟨rfl, _, .of d.g⟩, t.2.1, _, 0, 0, .int g0, rfl, rfl, d.g, by decide, by decide, ?_, rfl, ?_⟩
      · unfold seqIndex?
        simp
        try omega
      have ha : upd H t.2.1 (.lst (((g0 :: gs).map V.int).eraseIdx 0)) t.1 = some (.lst [.ref t.2.1, .int 0, .ref t.2.2, .int cnt]) := by
        rw [upd_ne ht.1]
        exact d.a
      refine ⟨_, rfl, _, _, _, _, rfl, rfl, ha, rfl, ?_⟩
      have hg := d.gb g0 (List.mem_cons_self ..)
      have hgl : gs.length ≤ 63 := by
        have := d.gl
        simp at this
        omega
      refine draw_mid (gs := gs) (cur := g0) ⟨upd_same, ?_, ?_, hg.1, hg.2, fun k hk => d.gb k (List.mem_cons_of_mem _ hk), hgl, d.cc, d.cl, d.n⟩ hc ht hm hm2 (fun b h1 h2 => ?_) hq
      · rw [upd_ne ht.1.symm, upd_same]
        rfl
      · rw [upd_ne ht.2.1.symm, upd_ne ht.2.2.symm]
        exact d.c
      · rw [upd_ne h1, upd_ne h2]
  · rw [ec, beq_eq_false_iff_ne.mpr h0]
    refine iteF ?_
    refine iteF ?_
    exact draw_mid d hc ht hm hm2 (fun _ _ _ => rfl) hq
theorem draw_raw {P : Program} {w : World} {mg : Str → Option Value} {base : Heap} {G : Gs} {k : Nat} {fa ga : Addr} {fd gd : FuncData} {nm qual gnm : Str} {st : Stmt} {N ps qs : List Str} {bl : List Str} (hbl : ∀ x, bl.contains x = true → mg x = none)
    (F : FunD G.K nm qual (defArgs st) (defBody st) (defScope st) [] [] fa fd) (S : scB N ps (defScope st) = true) (hN : N.length = 4) (hps : ps.length = 2)
    (q1 : mg gnm = some (.ref ga)) (q2 : PySem.W.keepIn G.K (.ref ga) = true) (q3 : FnOk P w G.K mg base (L2.CX P w) k ga gd qs spMix) (q4 : Binds G.K gd qs [])
    (hl : lkDraw { N := N, sc := defScope st, fn := fun _ => true, fnm := fun _ => none, gnm := fun _ => none, bl := bl } gnm (defBody st) = true) : FnOk P w G.K mg base (L2.CX P w) (k + 1) fa fd ps spDraw := by
  have S := scB_ok S
  refine F.ok S ?_ ?_
  · rintro vs H Q E ⟨t, gs, cs, cur, cnt, many, rfl, _⟩
    rw [hps]
    rfl
  · rintro cdv A outer s H vs Q E hr h
    have X1 : XOk (Zs.nil { G with oc := [] }) pF true (fun _ => 0) (fun _ _ _ _ _ _ => False) (fun _ => .non) k { N := N, sc := defScope st, fn := fun _ => true, fnm := fun _ => none, gnm := fun _ => none, bl := bl } (cxOf (L2.CX P w) P w G.K mg base N qual (defScope st) fa cdv A outer s H E) :=
      xok_bare rfl S.nd rfl (fun _ _ => rfl) rfl rfl hr rfl rfl hbl
    exact ⟨_, draw_walk X1 (passes_of rfl) q1 q2 q3 q4 _ hl, pure_draw N hN vs H Q E h⟩
end Pk

/-! The law's draw as our language has it; the law's start. -/
namespace Pk
open PySem L2
section
variable {G : Gs} {Φ : Fs} {cst : Nat → Nat} {f : Nat} {vs : List V} {H : Hp} {Q : VK} {E : XK}
theorem draw_sp (q : spD G Φ cst f vs H Q E) (hΦ : ∀ ds m Q X, Φ true f ds m Q X → drawR ds m Q) (hc : 9 ≤ cst f) : spDraw vs H Q E := by
  obtain ⟨W, m, ds, Q', X', hw, S, r, hn, kq, _⟩ := q
  obtain ⟨a, n, rfl, h1, h2, hq⟩ := hΦ _ _ _ _ hw
  cases r with
  | cons r1 r2 =>
    cases r2 with
    | cons r2 r3 =>
      cases r3
      cases r2
      cases r1 with
      | st ht =>
        rename_i g c
        obtain ⟨gs, cs, cur, cnt, d⟩ := S.dr _ ht
        have hcn := d.n
        refine ⟨(a, g, c), gs, cs, cur, cnt, n, rfl, ⟨d.a, d.g, d.c, d.cu, d.cb, d.gb, d.gl, d.cc, d.cl, by omega⟩, by omega, S.dri _ ht, h1, h2, fun x H' x0 x1 dt => ?_⟩
        have dis : ∀ b, ¬ drA W b → H' b = H b := fun b hb => dt.fr b (fun z => hb ⟨_, ht, .inl z⟩) (fun z => hb ⟨_, ht, .inr (.inl z)⟩)
        have le : Kn.le W { W with n := W.n + 9 } := ⟨fun _ _ h => h, fun _ h => h⟩
        obtain ⟨gs', cur', cnt', hcn', d'⟩ := dt.at_
        refine kq (.int x) m (.int x) H' { W with n := W.n + 9 } ⟨le, fun b o hb _ hd => (dis b hd).trans hb, fun b o _ k1 k2 _ => ⟨k1, k2⟩, fun b o _ hd => hd, fun b o hb => ?_, by show W.n + 9 ≤ _; omega⟩ ?_ (.int x) (hq x x0 x1)
        · by_cases e1 : b = a
          · subst e1; exact ⟨_, d'.a⟩
          · by_cases e2 : b = g
            · subst e2; exact ⟨_, d'.g⟩
            · exact ⟨o, (dt.fr b e1 e2).trans hb⟩
        · refine ⟨fun b u hb => ?_, fun b u hb => ?_, S.dj, fun t ht2 => ?_, S.drF, S.dri, S.drn, fun b xs hb => ?_⟩
          · rw [dis b fun z => by have := (S.drF b z).1; rw [show W.F b = some u from hb] at this; cases this]
            exact S.fz b u hb
          · refine (S.bx b u hb).mono le (dis b fun z => by have := (S.drF b z).2; rw [hb] at this; cases this)
          · by_cases e : (a, g, c) = t
            · subst e
              exact ⟨gs', cs, cur', cnt', d'.a, d'.g, d'.c, d'.cu, d'.cb, d'.gb, d'.gl, d'.cc, d'.cl, by show cnt' ≤ W.n + 9; omega⟩
            · refine (S.dr t ht2).same (fun b i => ?_) (Nat.le_add_right _ _)
              refine dt.fr b (fun z => S.drn _ ht _ ht2 e b (.inl z) i) (fun z => S.drn _ ht _ ht2 e b (.inr (.inl z)) i)
          · by_cases e1 : b = a
            · subst e1
              have ha : H' b = some (.lst [.ref g, .int cur', .ref c, .int cnt']) := d'.a
              rw [ha] at hb
              rcases hb with hb | hb | ⟨z, hb⟩
              · cases hb
                show 4 ≤ sizeLine
                decide
              · cases hb
              · cases hb
            · by_cases e2 : b = g
              · subst e2
                have hg : H' b = some (.lst (gs'.map V.int)) := d'.g
                rw [hg] at hb
                have hl := d'.gl
                have h63 : 63 ≤ sizeLine := by decide
                rcases hb with hb | hb | ⟨z, hb⟩
                · cases hb
                  rw [List.length_map]
                  omega
                · cases hb
                · cases hb
              · rw [dt.fr b e1 e2] at hb
                exact S.bd b xs hb
/-- the state as the law's start leaves it -/
def spStart (K : PySem.W.Frag) : Sp := fun vs H Q _ => ∃ (a : Addr) (ns : List Int), vs = [.ref a] ∧ SqL K H a (ns.map V.int) ∧ ns.length ≤ 63 ∧ (∀ k ∈ ns, Builtin.Int.intBits k ≤ 1048576) ∧
  ∀ (p g c : Addr) (gs cs : List Int), H p = none → H g = none → H c = none → p ≠ g → p ≠ c → g ≠ c → (∀ k ∈ gs, 0 ≤ k ∧ Builtin.Int.intBits k ≤ 1048576) → gs.length ≤ 63 → (∀ k ∈ cs, 0 ≤ k ∧ k < 2147483629) → cs.length ≤ 63 →
    Q (.ref p) (upd (upd (upd H g (.lst (gs.map V.int))) c (.lst (cs.map V.int))) p (.lst [.ref g, .int 0, .ref c, .int 0]))
theorem start_sp (q : spD G Φ cst f vs H Q E) (hΦ : ∀ ds m Q X, Φ true f ds m Q X → startR ds m Q) : spStart G.K vs H Q E := by
  obtain ⟨W, m, ds, Q', X', hw, S, r, hn, kq, _⟩ := q
  obtain ⟨ns, rfl, h1, h2, hq⟩ := hΦ _ _ _ _ hw
  cases r with
  | cons r1 r2 =>
    cases r2
    cases r1 with
    | scr ht =>
      rename_i a
      refine ⟨a, ns, rfl, sqL_H0 S ht, h1, h2, fun p g c gs cs hp hg hc pg pc gc g1 g2 c1 c2 => ?_⟩
      have le : Kn.le W { W with dr := (p, g, c) :: W.dr } := ⟨fun _ _ h => h, fun _ h => List.mem_cons_of_mem _ h⟩
      have ex : ∀ {b : Addr} {u : HO}, H b = some u → b ≠ p ∧ b ≠ g ∧ b ≠ c := fun {b u} q => ⟨fun z => (by rw [z, hp] at q; cases q), fun z => (by rw [z, hg] at q; cases q), fun z => (by rw [z, hc] at q; cases q)⟩
      have same : ∀ {b : Addr}, b ≠ p → b ≠ g → b ≠ c → upd (upd (upd H g (.lst (gs.map V.int))) c (.lst (cs.map V.int))) p (.lst [.ref g, .int 0, .ref c, .int 0]) b = H b := fun {b} x y z => by rw [upd_ne x, upd_ne z, upd_ne y]
      have sm : ∀ {b : Addr} {u : HO}, H b = some u → upd (upd (upd H g (.lst (gs.map V.int))) c (.lst (cs.map V.int))) p (.lst [.ref g, .int 0, .ref c, .int 0]) b = some u := fun {b u} q => by
        obtain ⟨x, y, z⟩ := ex q
        rw [same x y z, q]
      have vp : upd (upd (upd H g (.lst (gs.map V.int))) c (.lst (cs.map V.int))) p (.lst [.ref g, .int 0, .ref c, .int 0]) p = some (.lst [.ref g, .int 0, .ref c, .int 0]) := upd_same
      have vg : upd (upd (upd H g (.lst (gs.map V.int))) c (.lst (cs.map V.int))) p (.lst [.ref g, .int 0, .ref c, .int 0]) g = some (.lst (gs.map V.int)) := by rw [upd_ne pg.symm, upd_ne gc, upd_same]
      have vc : upd (upd (upd H g (.lst (gs.map V.int))) c (.lst (cs.map V.int))) p (.lst [.ref g, .int 0, .ref c, .int 0]) c = some (.lst (cs.map V.int)) := by rw [upd_ne pc.symm, upd_same]
      have inH : ∀ b, inT (p, g, c) b → H b = .none := fun b i => by
        rcases i with e | e | e
        · rw [show b = p from e]; exact hp
        · rw [show b = g from e]; exact hg
        · rw [show b = c from e]; exact hc
      refine kq (.st p) m (.ref p) _ { W with dr := (p, g, c) :: W.dr } ⟨le, fun b o hb _ _ => sm hb, fun b o _ k1 k2 _ => ⟨k1, k2⟩, fun b o hb hd => ?_, fun b o hb => ⟨o, sm hb⟩, Nat.le_add_right _ _⟩ ?_ (.st (g := g) (c := c) (List.mem_cons_self ..)) (hq p)
      · obtain ⟨t, ht, i⟩ := hd
        rcases List.mem_cons.mp ht with e | ht
        · subst e
          rw [inH b i] at hb
          cases hb
        · exact ⟨t, ht, i⟩
      · refine ⟨fun b u hb => sm (S.fz b u hb), fun b u hb => ?_, S.dj, fun t ht => ?_, fun b hd => ?_, fun t ht => ?_, fun t ht u hu => ?_, fun b xs hb => ?_⟩
        · obtain ⟨x, hx⟩ := (S.bx b u hb).there
          exact (S.bx b u hb).mono le ((sm hx).trans hx.symm)
        · rcases List.mem_cons.mp ht with e | ht
          · subst e
            exact ⟨gs, cs, 0, 0, vp, vg, vc, Int.le_refl _, by decide, g1, g2, c1, c2, Nat.zero_le _⟩
          · refine (S.dr t ht).same (fun b i => ?_) (Nat.le_refl _)
            obtain ⟨xs, e⟩ := (S.dr t ht).there i
            rw [sm e, e]
        · obtain ⟨t, ht, i⟩ := hd
          rcases List.mem_cons.mp ht with e | ht
          · subst e
            obtain ⟨k1, k2, _⟩ := S.none (inH b i)
            exact ⟨k1, k2⟩
          · exact S.drF b ⟨t, ht, i⟩
        · rcases List.mem_cons.mp ht with e | ht
          · subst e
            exact ⟨pg, pc, gc⟩
          · exact S.dri t ht
        · intro hne b i j
          rcases List.mem_cons.mp ht with e | ht
          · rcases List.mem_cons.mp hu with e2 | hu
            · exact hne (e.trans e2.symm)
            · subst e
              obtain ⟨xs, e⟩ := (S.dr u hu).there j
              rw [inH b i] at e
              cases e
          · rcases List.mem_cons.mp hu with e2 | hu
            · subst e2
              obtain ⟨xs, e⟩ := (S.dr t ht).there i
              rw [inH b j] at e
              cases e
            · exact S.drn t ht u hu hne b i j
        · have h63 : 63 ≤ sizeLine := by decide
          by_cases e1 : b = p
          · subst e1
            rw [vp] at hb
            rcases hb with hb | hb | ⟨z, hb⟩
            · cases hb
              show 4 ≤ sizeLine
              decide
            · cases hb
            · cases hb
          · by_cases e2 : b = g
            · subst e2
              rw [vg] at hb
              rcases hb with hb | hb | ⟨z, hb⟩
              · cases hb
                rw [List.length_map]
                omega
              · cases hb
              · cases hb
            · by_cases e3 : b = c
              · subst e3
                rw [vc] at hb
                rcases hb with hb | hb | ⟨z, hb⟩
                · cases hb
                  rw [List.length_map]
                  omega
                · cases hb
                · cases hb
              · rw [same e1 e2 e3] at hb
                exact S.bd b xs hb
end
end Pk

/-! The walk of the law's start. -/
namespace Pk
open PySem L2
/-- a comprehension stored on its own line in a local name -/
def mAsgL (C : Ct) (i : Nat) (own : List Nat) (elt : Scope → Lk) (p : Pt) (it : Expr → Lk) (c : Scope → List Expr → Bool) : LkS
  | .Assign [.Name x px] (.ListComp pelt [⟨pp, pit, pifs, 0⟩] scope pos) _ => decide (C.N[i]? = some x) && decide (C.sc.names.lookup x = some .local) && (px.line == pos.line) && !(scope.names.any fun (n, k) => n == x && (k == .local || k == .cell))
      && L2.blkC C.N C.sc scope (ownN C.N own) && notSet pit && ptIn own p && it pp pit && mPt (C.blk scope) p pp && elt scope pelt && c scope pifs
  | _ => false
def rGe : R2 := rI0 fun i j => .bl (decide (j ≤ i))
def rPowS : R2 := rI CPow fun i j => .int (i ^ j.toNat)
def lkOne (l : Lk) : List Expr → Bool
  | [p] => l p
  | _ => false
def lkStart (C : Ct) : List Stmt → Bool :=
  lsCons (mAsgL C 1 [2] (fun sc => mVar (C.blk sc) 2) (.nm 2) (mSeq (mVar C 0)) (fun sc => lkOne (mCmp .ge (mVar (C.blk sc) 2) (mOp2 .pow (mInt 10) (mInt 18))))) <|
  lsCons (mRet (mLst (lCons (mVar C 1) (lCons (mInt 0) (lCons (mComp C [2] (fun sc => mOp2 .mod (mVar (C.blk sc) 2) (mInt 2147483629)) (.nm 2) (mSeq (mVar C 0)) (fun _ ps => ps.isEmpty)) (lCons (mInt 0) lNil)))))) lsNil
def tSt1 (K : PySem.W.Frag) : TE := tLc (iList K (tVar 0)) (gName 2) (tCmpT rGe (tVar 2) (tOp rPowS (tC (.int 10)) (tC (.int 18)))) (tVar 2) [2]
def tSt2 (K : PySem.W.Frag) : TE := tLc (iList K (tVar 0)) (gName 2) tYes (tOp rMod (tVar 2) (tC (.int 2147483629))) [2]
def tStart (K : PySem.W.Frag) : TS := tSeq (tAsg (tSt1 K) (gName 1)) <| tSeq (tRet (tLst (tCons (tVar 1) (tCons (tC (.int 0)) (tCons (tSt2 K) (tCons (tC (.int 0)) tNil)))))) tNext
section
variable {G : Gs} {Z : Zs G} {cst : Nat → Nat} {Φ : Fs} {gv : Nat → D} {k : Nat} {C : Ct} {X : Cx}
theorem r_ptn (h : XOk Z pF true cst Φ gv k C X) (i : Nat) : ∀ pe, mPt C (.nm i) pe = true → PG X pe (gName i) := by
  intro pe hm
  cases pe <;> first
    | (cases hm; done)
    | skip
  rename_i x pos
  have hm' : (decide (C.N[i]? = some x) && locB C x) = true := hm
  obtain ⟨h1, h2⟩ := Bool.and_eq_true_iff.mp hm'
  have h1 := of_decide_eq_true h1
  obtain ⟨l1, l2⟩ := loc_of h h2
  exact pg_name (by rw [h.N]; exact h.nd) (by rw [h.N]; exact h1) l1 l2
theorem start_walk (h : XOk Z pF true cst Φ gv k C X) (hb : X.env.blockKind = .function) : OkRSs X (lkStart C) (tStart X.K) := by
  refine rss_cons ?_ (rss_cons (rs_ret (r_lst (ra_cons (r_var h 1) (ra_cons (r_int 0) (ra_cons ?_ (ra_cons (r_int 0) ra_nil)))))) rss_nil)
  · intro st hm
    unfold mAsgL at hm
    split at hm
    · rename_i x px pelt pp pit pifs scope pos spos
      simp only [Bool.and_eq_true, decide_eq_true_eq] at hm
      obtain ⟨⟨⟨⟨⟨⟨⟨⟨⟨⟨g1, g2⟩, g3⟩, g4⟩, h1⟩, h2⟩, h3⟩, h4⟩, h5⟩, h6⟩, h7⟩ := hm
      have hblk : L2.BlkOk X.N X.env.scope scope (ownN C.N [2]) := by
        rw [h.N, h.sc]
        exact L2.blkOk_by h1
      have hl : X.env.scope.names.lookup x = some .local := by rw [h.sc]; exact g2
      have hsw : swapsWith (.ListComp pelt [⟨pp, pit, pifs, 0⟩] scope pos) (some (.Name x px)) spos.line X.env = pure true := by
        show (pure (X.env.blockKind == .function && X.env.kindOf x == some .local && px.line == pos.line && !(scope.names.any fun (n, k) => n == x && (k == .local || k == .cell))) : Sem Bool) = pure true
        have e1 : X.env.kindOf x = some .local := hl
        rw [hb, e1, g3, g4]
        rfl
      cases pifs with
      | nil => cases h7
      | cons p r =>
        cases r with
        | cons _ _ => cases h7
        | nil =>
          have hps := ps_setLc (py := px) (pos := pos) (spos := spos) (h.calm rfl) (by rw [h.N]; exact h.nd) (by rw [h.N]; exact g1) hl hsw (pi_list (r_var h 0 _ h4)) hblk (fun s H D cl fp => r_ptn (h.blk s H scope D cl fp rfl) 2 pp h5)
            (fun s H D cl fp => pts_one (r_cmpT .ge op_ge (r_var (h.blk s H scope D cl fp rfl) 2) (r_op2 .pow op_pow (r_int _) (r_int _)) p h7)) (fun s H D cl fp => r_var (h.blk s H scope D cl fp rfl) 2 pelt h6) (foldedSet_of h2 _)
          rw [own_snd] at hps
          exact hps
    · cases hm
  · intro pe hm
    unfold mComp at hm
    split at hm
    · rename_i pelt pp pit pifs scope pos
      simp only [Bool.and_eq_true] at hm
      obtain ⟨⟨⟨⟨⟨⟨h1, h2⟩, h3⟩, h4⟩, h5⟩, h6⟩, h7⟩ := hm
      have hblk : L2.BlkOk X.N X.env.scope scope (ownN C.N [2]) := by
        rw [h.N, h.sc]
        exact L2.blkOk_by h1
      cases pifs with
      | cons _ _ => cases h7
      | nil =>
        have hpe := pe_lc (pos := pos) (h.calm rfl) (by rw [h.N]; exact h.nd) (pi_list (r_var h 0 _ h4)) hblk (fun s H D cl fp => r_ptn (h.blk s H scope D cl fp rfl) 2 pp h5) (fun s H D cl fp => pts_nil)
          (fun s H D cl fp => r_op2 .mod op_mod (r_var (h.blk s H scope D cl fp rfl) 2) (r_int _) pelt h6) (foldedSet_of h2 _)
        rw [own_snd] at hpe
        exact hpe
    · cases hm
end
theorem pure_start {K : PySem.W.Frag} (N : List Str) (hN : N.length = 3) (vs : List V) (H : Hp) (Q : VK) (E : XK) (h : spStart K vs H Q E) : tStart K { nx := fun _ H' => Q .non H', rt := Q } (L2.start N vs) H := by
  obtain ⟨a, ns, rfl, hS, hl, hb, hq⟩ := h
  have hs : L2.start N [V.ref a] = [some (.ref a), none, none] := by
    unfold L2.start
    rw [hN]
    rfl
  rw [hs]
  have hlen : (ns.map V.int).length = ns.length := by simp
  have sq : ∀ {g : Addr} {o : HO}, H g = none → SqL K (upd H g o) a (ns.map V.int) := fun {g o} hg => by
    rcases hS with (z | ⟨o', z⟩) | z
    · exact .inl (.inl (by rw [upd_ne (fun e => by rw [e, hg] at z; cases z)]; exact z))
    · exact .inl (.inr ⟨o', by rw [upd_ne (fun e => by rw [e, hg] at z; cases z)]; exact z⟩)
    · exact .inr z
  have sq2 : ∀ {g c : Addr} {o u : HO}, H g = none → H c = none → SqL K (upd (upd H g o) c u) a (ns.map V.int) := fun {g c o u} hg hc => by
    rcases hS with (z | ⟨o', z⟩) | z
    · exact .inl (.inl (by rw [upd_ne (fun e => by rw [e, hc] at z; cases z), upd_ne (fun e => by rw [e, hg] at z; cases z)]; exact z))
    · exact .inl (.inr ⟨o', by rw [upd_ne (fun e => by rw [e, hc] at z; cases z), upd_ne (fun e => by rw [e, hg] at z; cases z)]; exact z⟩)
    · exact .inr z
  refine ⟨_, rfl, a, rfl, ⟨_, hS⟩, fun g hg => ?_⟩
  refine lc_it (walk_list (xs := ns.map V.int)) (fun i H' => ∃ gs : List Int, H' = upd H g (.lst (gs.map V.int)) ∧ gs.length ≤ i ∧ ∀ k ∈ gs, 0 ≤ k ∧ Builtin.Int.intBits k ≤ 1048576) ?_ ?_ ?_ ?_
  · exact ⟨[], rfl, Nat.le_refl _, fun k hk => by cases hk⟩
  · rintro i H' hi ⟨gs, rfl, _, _⟩
    exact sq hg
  · rintro i x H' H'' hi ⟨gs, rfl, hgl, hgs⟩ ⟨rfl, hx⟩
    rw [hlen] at hi
    rw [List.getElem?_map, List.getElem?_eq_getElem hi] at hx
    have hx' : V.int ns[i] = x := Option.some.inj hx
    subst hx'
    refine ⟨rfl, _, rfl, _, _, rfl, rfl, ⟨by decide, by decide, by decide⟩, _, _, rfl, rfl, _, rfl, ?_⟩
    by_cases hge : (10 : Int) ^ (18 : Int).toNat ≤ ns[i]
    · rw [decide_eq_true hge]
      refine iteT ?_
      refine ⟨_, rfl, _, upd_same, by rw [List.length_map]; have : sizeLine = 16777216 := rfl; omega, gs ++ [ns[i]], ?_, ?_, fun k hk => ?_⟩
      · rw [upd_upd, List.map_append]
        rfl
      · simp
        omega
      · rcases List.mem_append.mp hk with hk | hk
        · exact hgs k hk
        · have e : k = ns[i] := by simpa using hk
          subst e
          refine ⟨?_, hb _ (List.getElem_mem hi)⟩
          have : (0 : Int) ≤ 10 ^ (18 : Int).toNat := by decide
          omega
    · rw [decide_eq_false hge]
      refine iteF ?_
      exact ⟨gs, rfl, by omega, hgs⟩
  rintro H' ⟨gs, rfl, hgl, hgs⟩
  rw [hlen] at hgl
  refine ⟨_, rfl, _, rfl, a, rfl, ⟨_, sq hg⟩, fun c hc => ?_⟩
  have hcg : c ≠ g := fun z => by rw [z, upd_same] at hc; cases hc
  have hcH : H c = none := by rw [upd_ne hcg] at hc; exact hc
  refine lc_it (walk_list (xs := ns.map V.int)) (fun i H' => ∃ cs : List Int, H' = upd (upd H g (.lst (gs.map V.int))) c (.lst (cs.map V.int)) ∧ cs.length ≤ i ∧ ∀ k ∈ cs, 0 ≤ k ∧ k < 2147483629) ?_ ?_ ?_ ?_
  · exact ⟨[], rfl, Nat.le_refl _, fun k hk => by cases hk⟩
  · rintro i H' hi ⟨cs, rfl, _, _⟩
    exact sq2 hg hcH
  · rintro i x H' H'' hi ⟨cs, rfl, hcl, hcs⟩ ⟨rfl, hx⟩
    rw [hlen] at hi
    rw [List.getElem?_map, List.getElem?_eq_getElem hi] at hx
    have hx' : V.int ns[i] = x := Option.some.inj hx
    subst hx'
    refine ⟨rfl, ?_⟩
    refine ⟨_, rfl, _, _, rfl, rfl, (show (0 : Int) < 2147483629 by decide), _, upd_same, by rw [List.length_map]; have : sizeLine = 16777216 := rfl; omega, cs ++ [ns[i] % 2147483629], ?_, ?_, fun k hk => ?_⟩
    · rw [upd_upd, List.map_append]
      rfl
    · simp
      omega
    · rcases List.mem_append.mp hk with hk | hk
      · exact hcs k hk
      · have e : k = ns[i] % 2147483629 := by simpa using hk
        subst e
        exact ⟨Int.emod_nonneg _ (by decide), Int.emod_lt_of_pos _ (by decide)⟩
  rintro H' ⟨cs, rfl, hcl, hcs⟩
  rw [hlen] at hcl
  refine ⟨by show 4 ≤ sizeLine; decide, fun p hp => ?_⟩
  have hpc : p ≠ c := fun z => by rw [z, upd_same] at hp; cases hp
  rw [upd_ne hpc] at hp
  have hpg : p ≠ g := fun z => by rw [z, upd_same] at hp; cases hp
  rw [upd_ne hpg] at hp
  exact hq p g c gs cs hp hg hcH hpg hpc (fun z => hcg z.symm) hgs (by omega) hcs (by omega)
theorem start_raw {P : Program} {w : World} {mg : Str → Option Value} {base : Heap} {G : Gs} {k : Nat} {fa : Addr} {fd : FuncData} {nm qual : Str} {st : Stmt} {N ps : List Str} {bl : List Str} (hbl : ∀ x, bl.contains x = true → mg x = none)
    (F : FunD G.K nm qual (defArgs st) (defBody st) (defScope st) [] [] fa fd) (S : scB N ps (defScope st) = true) (hN : N.length = 3) (hps : ps.length = 1)
    (hl : lkStart { N := N, sc := defScope st, fn := fun _ => true, fnm := fun _ => none, gnm := fun _ => none, bl := bl } (defBody st) = true) : FnOk P w G.K mg base (L2.CX P w) (k + 1) fa fd ps (spStart G.K) := by
  have S := scB_ok S
  refine F.ok S ?_ ?_
  · rintro vs H Q E ⟨a, ns, rfl, _⟩
    rw [hps]
    rfl
  · rintro cdv A outer s H vs Q E hr h
    have X1 : XOk (Zs.nil { G with oc := [] }) pF true (fun _ => 0) (fun _ _ _ _ _ _ => False) (fun _ => .non) k { N := N, sc := defScope st, fn := fun _ => true, fnm := fun _ => none, gnm := fun _ => none, bl := bl } (cxOf (L2.CX P w) P w G.K mg base N qual (defScope st) fa cdv A outer s H E) :=
      xok_bare rfl S.nd rfl (fun _ _ => rfl) rfl rfl hr rfl rfl hbl
    have hb : (cxOf (L2.CX P w) P w G.K mg base N qual (defScope st) fa cdv A outer s H E).env.blockKind = .function := by
      show (if (defScope st).kind.isAnnotationScope then ScopeKind.function else (defScope st).kind) = .function
      rw [S.kind]
      rfl
    exact ⟨_, start_walk X1 hb _ hl, pure_start N hN vs H Q E h⟩
/-! ### the two as sources of promises -/
theorem hot_no {T : Tb} {f : Nat} (hT : T f = some .start ∨ T f = some .draw) : ∀ (k : Nat) (gv : Nat → D) (vs : List D) (m : Mu) (Q : Pq) (X : Px), run T gv k false f vs m Q X → False
  | 0, _, _, _, _, _, q => q.elim
  | k + 1, gv, vs, m, Q, X, q => by
    rw [run_succ] at q
    rcases hT with hT | hT
    · rw [hT] at q
      cases q.1
    · rw [hT] at q
      cases q.1
theorem src_start {P : Program} {w : World} {mg : Str → Option Value} {base : Heap} {G : Gs} {T : Tb} {cst : Nat → Nat} {n : Nms} {f : Nat} {fa : Addr} {fd : FuncData} {nm0 nm qual : Str} {st : Stmt} {N ps : List Str} (hbl : ∀ x, n.bl.contains x = true → mg x = none) (hT : T f = some .start) (hdf : (n.df.lookup f).getD [] = []) (hm : mg nm = some (.ref fa))
    (F : FunD G.K nm0 qual (defArgs st) (defBody st) (defScope st) [] [] fa fd) (B : Binds G.K fd ps []) (S : scB N ps (defScope st) = true) (hN : N.length = 3) (hps : ps.length = 1)
    (hl : lkStart { N := N, sc := defScope st, fn := fun _ => true, fnm := fun _ => none, gnm := fun _ => none, bl := n.bl } (defBody st) = true) : Src P w mg base G T cst n f nm :=
  .hand hm F.kp ⟨B, fun j hj => (by rw [hdf] at hj; cases hj)⟩ (fun k gv => (start_raw (k := k + 2) hbl F S hN hps hl).imp fun vs H Q E q => start_sp (Φ := run T gv (k + 1)) q fun ds m Q X q => by
    rw [run_succ, hT] at q
    exact q.2) (hot_no (.inl hT))
theorem src_draw {P : Program} {w : World} {mg : Str → Option Value} {base : Heap} {G : Gs} {T : Tb} {cst : Nat → Nat} {n : Nms} {f : Nat} {fa ga : Addr} {fd gd : FuncData} {nm0 nm qual gnm gnm0 gqual : Str} {st gst : Stmt} {N ps gN qs : List Str} (hbl : ∀ x, n.bl.contains x = true → mg x = none) (hT : T f = some .draw) (hdf : (n.df.lookup f).getD [] = []) (hc : 9 ≤ cst f) (hm : mg nm = some (.ref fa))
    (F : FunD G.K nm0 qual (defArgs st) (defBody st) (defScope st) [] [] fa fd) (B : Binds G.K fd ps []) (S : scB N ps (defScope st) = true) (hN : N.length = 4) (hps : ps.length = 2)
    (hgm : mg gnm = some (.ref ga)) (GF : FunD G.K gnm0 gqual (defArgs gst) (defBody gst) (defScope gst) [] [] ga gd) (GB : Binds G.K gd qs []) (GS : scB gN qs (defScope gst) = true) (hgN : gN.length = 4) (hqs : qs.length = 1)
    (hgl : lkMix { N := gN, sc := defScope gst, fn := fun _ => true, fnm := fun _ => none, gnm := fun _ => none, bl := n.bl } (defBody gst) = true)
    (hl : lkDraw { N := N, sc := defScope st, fn := fun _ => true, fnm := fun _ => none, gnm := fun _ => none, bl := n.bl } gnm (defBody st) = true) : Src P w mg base G T cst n f nm :=
  .hand hm F.kp ⟨B, fun j hj => (by rw [hdf] at hj; cases hj)⟩ (fun k gv => (draw_raw (k := k + 2) hbl F S hN hps hgm GF.kp (mix_ok (k := k + 1) hbl GF GS hgN hqs hgl) GB hl).imp fun vs H Q E q => draw_sp (Φ := run T gv (k + 1)) q (fun ds m Q X q => by
    rw [run_succ, hT] at q
    exact q.2) hc) (hot_no (.inr hT))
end Pk

/-! The joining: a law's head by facts, its defs, the end. -/
namespace Pk
open PySem L2
def BindP (q : Str) (d : Df) : Prop := ∀ (kV doc pm : Value) (an : Option Addr) (cdv ct : Value) (us : List Value), us.length = d.ps.length → bindArgs (PySem.W.fnOf d.nm q (defArgs d.st) (defBody d.st) (defScope d.st) .none kV doc pm an cdv ct) ⟨us, []⟩ = pure (d.ps.zip us)
/-- the same where the defaults behind the first j fill up -/
def BindJ (q : Str) (d : Df) (j : Nat) : Prop := ∀ (T : Addr) (kV doc pm : Value) (an : Option Addr) (cdv ct : Value) (us its : List Value), us.length = d.ps.length - (d.dfl.length - j) → its.length = d.dfl.length →
  ∃ k, bindArgs (PySem.W.fnOf d.nm q (defArgs d.st) (defBody d.st) (defScope d.st) (.ref T) kV doc pm an cdv ct) ⟨us, []⟩ = seqItems? (.ref T) >>= k ∧ k (some its.toArray) = pure (d.ps.zip (us ++ its.drop j))
def BindD (q : Str) (d : Df) : Prop := (d.dfl = [] ∧ BindP q d) ∨ (d.dfl ≠ [] ∧ d.dfl.length ≤ d.ps.length ∧ ∀ j, j ≤ d.dfl.length → BindJ q d j)
def AllB : List Df → Prop
  | [] => True
  | d :: r => BindD d.nm d ∧ AllB r
theorem AllB.mem : ∀ {l : List Df} {d : Df}, AllB l → d ∈ l → BindD d.nm d
  | _ :: _, d, h, hd => by
    rcases List.mem_cons.mp hd with e | e
    · subst e
      exact h.1
    · exact AllB.mem h.2 e
/-- a method of an own class -/
structure Md where
  d : Df
  c : Nat
  cn : Str
def Md.qual (m : Md) : Str := m.cn ++ "." ++ m.d.nm
def AllBM : List Md → Prop
  | [] => True
  | m :: r => BindD m.qual m.d ∧ AllBM r
theorem AllBM.mem : ∀ {l : List Md} {m : Md}, AllBM l → m ∈ l → BindD m.qual m.d
  | _ :: _, d, h, hd => by
    rcases List.mem_cons.mp hd with e | e
    · subst e
      exact h.1
    · exact AllBM.mem h.2 e
/-- an own class's __init__, its defaults -/
structure Kdf where
  k : Ki
  dfl : List He.Dv := []
def Kdf.qual (m : Kdf) : Str := m.k.cn ++ ".__init__"
def Kdf.he (m : Kdf) : He.DefD := ⟨(m.k.cn, some "__init__"), "__init__", m.qual, defArgs m.k.st, defBody m.k.st, defScope m.k.st, m.dfl, []⟩
def BindK (m : Kdf) : Prop := (m.dfl = [] ∧ ∀ (kV doc pm : Value) (an : Option Addr) (cdv ct : Value) (us : List Value), us.length = m.k.ps.length → bindArgs (PySem.W.fnOf "__init__" m.qual (defArgs m.k.st) (defBody m.k.st) (defScope m.k.st) .none kV doc pm an cdv ct) ⟨us, []⟩ = pure (m.k.ps.zip us)) ∨
  (m.dfl ≠ [] ∧ ∀ (T : Addr) (kV doc pm : Value) (an : Option Addr) (cdv ct : Value) (us its : List Value), us.length = m.k.ps.length → its.length = m.dfl.length →
  ∃ k, bindArgs (PySem.W.fnOf "__init__" m.qual (defArgs m.k.st) (defBody m.k.st) (defScope m.k.st) (.ref T) kV doc pm an cdv ct) ⟨us, []⟩ = seqItems? (.ref T) >>= k ∧ k (some its.toArray) = pure (m.k.ps.zip (us ++ its.drop m.dfl.length)))
def AllBK : List Kdf → Prop
  | [] => True
  | m :: r => BindK m ∧ AllBK r
theorem AllBK.mem : ∀ {l : List Kdf} {m : Kdf}, AllBK l → m ∈ l → BindK m
  | _ :: _, d, h, hd => by
    rcases List.mem_cons.mp hd with e | e
    · subst e
      exact h.1
    · exact AllBK.mem h.2 e
/-- an __init__ of an exception class: the class, the field, their text -/
structure Mi where
  c : Nat
  f : Nat
  cn : Str
  st : Stmt
  N : List Str
def Mi.qual (m : Mi) : Str := m.cn ++ ".__init__"
def Mi.he (m : Mi) : He.DefD := ⟨(m.cn, some "__init__"), "__init__", m.qual, defArgs m.st, defBody m.st, defScope m.st, [], []⟩
def BindI (m : Mi) : Prop := ∀ (kV doc pm : Value) (an : Option Addr) (cdv ct : Value) (us : List Value), us.length = m.N.length → bindArgs (PySem.W.fnOf "__init__" m.qual (defArgs m.st) (defBody m.st) (defScope m.st) .none kV doc pm an cdv ct) ⟨us, []⟩ = pure (m.N.zip us)
def AllI : List Mi → Prop
  | [] => True
  | m :: r => BindI m ∧ AllI r
theorem AllI.mem : ∀ {l : List Mi} {m : Mi}, AllI l → m ∈ l → BindI m
  | _ :: _, m, h, hd => by
    rcases List.mem_cons.mp hd with e | e
    · subst e
      exact h.1
    · exact AllI.mem h.2 e
def Cn.dv : Cn → He.Dv
  | .non => .non
  | .bl b => .bl b
  | .int i => .int i
  | .str s => .str ⟨s.toArray⟩
theorem Cn.dv_v {K : PySem.W.Frag} (c : Cn) : He.Dv.v K c.dv = c.v := by cases c <;> rfl
def Md.he (m : Md) : He.DefD := ⟨(m.cn, some m.d.nm), m.d.nm, m.qual, defArgs m.d.st, defBody m.d.st, defScope m.d.st, m.d.dfl.map Cn.dv, []⟩
def Df.he (d : Df) : He.DefD := ⟨(d.nm, none), d.nm, d.nm, defArgs d.st, defBody d.st, defScope d.st, d.dfl.map Cn.dv, []⟩
theorem he_dvsM {K : PySem.W.Frag} (m : Md) : m.he.dvs K = m.d.dfl.map Cn.v := by
  show (m.d.dfl.map Cn.dv).map (He.Dv.v K) = _
  rw [List.map_map]
  exact List.map_congr_left fun c _ => c.dv_v
theorem he_dvs {K : PySem.W.Frag} (d : Df) : d.he.dvs K = d.dfl.map Cn.v := by
  show (d.dfl.map Cn.dv).map (He.Dv.v K) = _
  rw [List.map_map]
  exact List.map_congr_left fun c _ => c.dv_v
theorem binds_of {K : PySem.W.Frag} {d : Df} {f : Addr} {fd : FuncData} {q : Str} (F : FunD K d.nm q (defArgs d.st) (defBody d.st) (defScope d.st) (d.dfl.map Cn.v) [] f fd) (h : BindD q d) : Binds K fd d.ps [] ∧ ∀ j, j < d.dfl.length → ∃ us, Vals ((d.dfl.drop j).map Cn.v) us ∧ Binds K fd d.ps us := by
  rcases h with ⟨e, h⟩ | ⟨e, hl, h⟩
  · rw [e] at F ⊢
    exact ⟨FunD.bindsN F h, fun j hj => by cases hj⟩
  · have hne : d.dfl.map Cn.v ≠ [] := fun z => e (List.map_eq_nil_iff.mp z)
    have key : ∀ j, j ≤ d.dfl.length → ∃ us, Vals ((d.dfl.drop j).map Cn.v) us ∧ Binds K fd d.ps us := fun j hj => by
      have := FunD.binds1 F (ps := d.ps) (d.ps.length - (d.dfl.length - j)) j hne (by rw [List.length_map]; omega) (fun T kV doc pm an cdv ct us its h1 h2 => h j hj T kV doc pm an cdv ct us its h1 (by rw [h2, List.length_map]))
      rw [← List.map_drop] at this
      exact this
    refine ⟨?_, fun j hj => key j (by omega)⟩
    obtain ⟨us, h1, h2⟩ := key d.dfl.length (Nat.le_refl _)
    rw [List.drop_length] at h1
    cases h1
    exact h2
theorem bindsK_of {K : PySem.W.Frag} {m : Kdf} {f : Addr} {fd : FuncData} (F : FunD K "__init__" m.qual (defArgs m.k.st) (defBody m.k.st) (defScope m.k.st) (m.he.dvs K) [] f fd) (h : BindK m) : Binds K fd m.k.ps [] := by
  have hd : m.he.dvs K = m.dfl.map (He.Dv.v K) := rfl
  rw [hd] at F
  rcases h with ⟨e, h⟩ | ⟨e, h⟩
  · rw [e] at F
    exact FunD.bindsN F h
  · have hne : m.dfl.map (He.Dv.v K) ≠ [] := fun z => e (List.map_eq_nil_iff.mp z)
    have := FunD.binds1 F (ps := m.k.ps) m.k.ps.length m.dfl.length hne (by rw [List.length_map]; omega) (fun T kV doc pm an cdv ct us its h1 h2 => h T kV doc pm an cdv ct us its h1 (by rw [h2, List.length_map]))
    obtain ⟨us, h1, h2⟩ := this
    rw [show (m.dfl.map (He.Dv.v K)).drop m.dfl.length = [] from List.drop_eq_nil_of_le (by rw [List.length_map]; exact Nat.le_refl _)] at h1
    cases h1
    exact h2
theorem fact_mem {fa : List He.Fa} {fn : List He.DefD} {K : PySem.W.Frag} (c : He.SaysD fa fn K) {f : He.Fa} (h : f ∈ fa) : f.ok K = true := by
  obtain ⟨i, hi⟩ := List.getElem?_of_mem h
  exact c.fact i hi
/-! ### constants of the module -/
def cnFa (nm : Str) : Gc → He.Fa
  | .cn (.int i) => .int nm i
  | .cn (.str s) => .str nm ⟨s.toArray⟩
  | .tup _ => .glo nm
  | _ => .keep nm
/-- what of it is not told by the facts above -/
def cnX (nm : Str) : Gc → PySem.W.Frag → Bool
  | .tup cs, K => (He.Fa.glo nm).ok K && He.tupB K nm (cs.map Cn.dv)
  | _, _ => true
def cnOk : Gc → Bool
  | .cn (.int _) => true
  | .cn (.str _) => true
  | .tup cs => cs.all fun c => match c with
    | .int _ => true
    | .str _ => true
    | _ => false
  | _ => false
theorem cn_reps {G : Gs} {W : Kn} (cs : List Cn) : RepL G W ((cs.map Cn.dv).map (He.Dv.v G.K)) (cs.map Cn.d) := by
  have e : (cs.map Cn.dv).map (He.Dv.v G.K) = cs.map Cn.v := by
    rw [List.map_map]
    exact List.map_congr_left fun c _ => Cn.dv_v c
  rw [e]
  exact Cn.reps cs
theorem cn_glob {G : Gs} {h : Heap} {mg : Str → Option Value} {nm : Str} {c : Gc} (KX : G.K.In h) (Gm : h.Ns mainGlobals mg) (hc : cnOk c = true) (hf : (cnFa nm c).ok G.K = true) (hx : cnX nm c G.K = true) : ∃ (u : Value) (v : V), mg nm = some u ∧ RelV v u ∧ ∀ W, Rep G W v c.d := by
  cases c with
  | cn c =>
    cases c with
    | int i =>
      obtain ⟨t, e⟩ := He.int_ok KX Gm hf
      exact ⟨_, .int i, e, ⟨t, rfl⟩, fun W => .int i⟩
    | str s =>
      obtain ⟨t, e⟩ := He.str_ok KX Gm hf
      exact ⟨_, .str ⟨s.toArray⟩, e, ⟨t, rfl⟩, fun W => .str s⟩
    | non => cases hc
    | bl b => cases hc
  | tup cs =>
    have hx : ((He.Fa.glo nm).ok G.K && He.tupB G.K nm (cs.map Cn.dv)) = true := hx
    rw [Bool.and_eq_true] at hx
    refine ⟨_, .ref (He.ga G.K nm), He.glo_ok KX Gm hx.1, rfl, fun W => ?_⟩
    have sq : ∀ H : Hp, SqT G.K H (He.ga G.K nm) _ := fun H => He.tupB_ok hx.2 H
    exact .tup (sq _) (cn_reps cs)
theorem look3 {cs : List (Nat × Str × Gc)} {g : Nat} {nm : Str} (h : (cs.map fun c => (c.1, c.2.1)).lookup g = some nm) : ∃ c, (g, nm, c) ∈ cs ∧ (cs.map fun c => (c.1, c.2.2)).lookup g = some c := by
  induction cs with
  | nil => cases h
  | cons x r ih =>
    rw [List.map_cons, List.lookup_cons] at h
    by_cases e : g = x.1
    · subst e
      rw [beq_self_eq_true] at h
      have e2 := Option.some.inj h
      refine ⟨x.2.2, ?_, ?_⟩
      · have : x = (x.1, nm, x.2.2) := by rw [← e2]
        rw [← this]
        exact List.mem_cons_self ..
      · rw [List.map_cons, List.lookup_cons, beq_self_eq_true]
    · rw [beq_eq_false_iff_ne.mpr e] at h
      obtain ⟨c, h1, h2⟩ := ih h
      refine ⟨c, List.mem_cons_of_mem _ h1, ?_⟩
      rw [List.map_cons, List.lookup_cons, beq_eq_false_iff_ne.mpr e]
      exact h2
/-- a law's text: its defs, the three of its draws, the names -/
structure Lw where
  ds : List Df
  sS : Df
  sD : Df
  sM : Df
  gn : List (Nat × Str)
  gf : List He.Fa
  bl : List Str
  cs : List (Nat × Nat)
  /-- facts of another kind -/
  gx : PySem.W.Frag → Bool := fun _ => true
  /-- classes, fields, by their numbers -/
  cl : List (Nat × Str × Option Nat) := []
  fl : List (Nat × Str) := []
  ms : List Mi := []
  ba : Str := Str.empty
  /-- own classes (their fields), fields, methods, __init__s -/
  oc : List (Nat × Str × List Nat) := []
  ofl : List (Nat × Str) := []
  mt : List Md := []
  ki : List Kdf := []
def Lw.fld (L : Lw) (f : Nat) : Str := (L.fl.lookup f).getD ((L.ofl.lookup f).getD Str.empty)
/-- what a fragment says -/
def Lw.G (L : Lw) (K : PySem.W.Frag) : Gs := { K := K, cls := fun c => He.ga K (((L.cl.lookup c).map (·.1)).getD (((L.oc.lookup c).map (·.1)).getD Str.empty)), fld := L.fld, xk := L.cl.map (·.1), oc := L.oc.map (·.1), ofs := fun c => ((L.oc.lookup c).map (·.2)).getD [] }
def Lw.n (L : Lw) : Nms := { fn := (L.sS.f, L.sS.nm) :: (L.sD.f, L.sD.nm) :: L.ds.map (fun d => (d.f, d.nm)), gn := L.gn, bl := L.bl, df := L.ds.map (fun d => (d.f, d.dfl)) ++ L.mt.map (fun m => (m.d.f, m.d.dfl)), xc := L.cl, xn := (100, "ValueError") :: L.cl.map (fun c => (c.1, c.2.1)), fl := L.fl, ofl := L.ofl, omt := L.mt.map (fun m => (m.d.f, (m.c, m.d.nm))), omk := L.ki.map (fun m => (m.k.f, (m.k.c, m.k.cn))) }
def Lw.all (L : Lw) : List Df := L.sS :: L.sD :: L.sM :: L.ds
def Lw.cst (L : Lw) (f : Nat) : Nat := (L.cs.lookup f).getD 0
def Lw.T (L : Lw) : Tb := fun f => if f = 1000 then some .start else if f = 1001 then some .draw else ((L.ds.map fun d => (d.f, d.fd)) ++ ((L.mt.map fun m => (m.d.f, m.d.fd)) ++ L.ki.map fun m => (m.k.f, FD.ini m.k.c m.k.ps.length m.k.N.length m.k.is))).lookup f
def Lw.own (L : Lw) : List He.Fa := L.oc.flatMap (fun c => He.Fa.glo c.2.1 :: He.Fa.cls c.2.1 :: c.2.2.map fun f => He.Fa.noat c.2.1 (L.fld f)) ++ (L.mt.map (fun m => He.Fa.meth m.cn m.d.nm) ++ L.ki.map fun m => He.Fa.mkr m.k.cn)
def Lw.fa (L : Lw) : List He.Fa := L.gf ++ (L.all.map (fun d => He.Fa.glo d.nm) ++ (L.bl.map He.Fa.free ++ L.own))
def Lw.fn (L : Lw) : List He.DefD := L.all.map Df.he ++ (L.ms.map Mi.he ++ (L.mt.map Md.he ++ L.ki.map Kdf.he))
/-- what is decided of own classes -/
def ownB (L : Lw) : Bool := decide ((L.ds.map (·.f) ++ (L.mt.map (fun m => m.d.f) ++ L.ki.map (fun m => m.k.f))).Nodup)
  && L.oc.all (fun c => decide (L.oc.lookup c.1 = some c.2) && decide (L.cl.lookup c.1 = none) && c.2.2.all fun f => c.2.2.all fun g => decide (f = g) || !decide (L.fld f = L.fld g))
  && L.ofl.all (fun f => decide (L.fl.lookup f.1 = none) && decide (L.ofl.lookup f.1 = some f.2))
  && L.mt.all (fun m => (match L.oc.lookup m.c with
    | some (cn, fs) => decide (cn = m.cn) && fs.all fun g => !decide (L.fld g = m.d.nm)
    | none => false) && m.d.ok L.n && decide (cSs L.cst m.d.body ≤ L.cst m.d.f) && !decide (m.d.f = 1000) && !decide (m.d.f = 1001))
  && L.ki.all (fun m => (match L.oc.lookup m.k.c with
    | some (cn, fs) => decide (cn = m.k.cn) && m.k.ok L.n fs
    | none => false) && decide (cIs L.cst m.k.is ≤ L.cst m.k.f) && !decide (m.k.f = 1000) && !decide (m.k.f = 1001))
/-- what is looked at of the exception classes -/
def clsW (K : PySem.W.Frag) (c : Nat) (nm : Str) : Value := if c = 100 then .type "ValueError" else .ref (He.ga K nm)
def Lw.ex (L : Lw) (K : PySem.W.Frag) : Bool := L.cl.all (fun c => (He.Fa.glo c.2.1).ok K && clB K (He.ga K c.2.1) && (c.2.2.isSome || PySem.W.excIn K (He.ga K c.2.1) He.veBase "ValueError.__new__")
    && L.fl.all (fun f => eqV (PySem.W.findIn K (.ref (He.ga K c.2.1)) f.2) (some none))
    && ((100, ("ValueError" : Str), (none : Option Nat)) :: L.cl).all fun d => decide (PySem.W.kitOne K (.ref (He.ga K c.2.1)) (clsW K d.1 d.2.1) = some (subX c.1 d.1)) && decide (PySem.W.exmOne K (.ref (He.ga K c.2.1)) (clsW K d.1 d.2.1) = some (subX c.1 d.1)))
  && L.ms.all (fun m => (He.Fa.meth m.cn "__init__").ok K) && (L.ms.isEmpty || ((He.Fa.glo L.ba).ok K && bsB K (He.ga K L.ba)))
/-- what is decided of a law's text -/
structure Lw.Says (L : Lw) (K : PySem.W.Frag) : Prop where
  d : He.SaysD L.fa L.fn K
  x : L.gx K = true
  e : L.ex K = true
def dfB (L : Lw) (d : Df) : Bool := d.ok L.n && decide (cSs L.cst d.body ≤ L.cst d.f) && !decide (d.f = 1000) && !decide (d.f = 1001)
def ct0 (L : Lw) (d : Df) : Ct := { N := d.N, sc := defScope d.st, fn := fun _ => true, fnm := fun _ => none, gnm := fun _ => none, bl := L.bl }
def hdB (L : Lw) : Bool := decide (L.sS.f = 1000) && decide (L.sD.f = 1001) && decide (9 ≤ L.cst 1001)
  && scB L.sS.N L.sS.ps (defScope L.sS.st) && scB L.sD.N L.sD.ps (defScope L.sD.st) && scB L.sM.N L.sM.ps (defScope L.sM.st)
  && decide (L.sS.N.length = 3) && decide (L.sS.ps.length = 1) && decide (L.sD.N.length = 4) && decide (L.sD.ps.length = 2) && decide (L.sM.N.length = 4) && decide (L.sM.ps.length = 1)
  && decide (L.sS.dfl = []) && decide (L.sD.dfl = []) && decide (L.sM.dfl = []) && decide ((L.n.df.lookup 1000).getD [] = []) && decide ((L.n.df.lookup 1001).getD [] = [])
  && lkStart (ct0 L L.sS) (defBody L.sS.st) && lkDraw (ct0 L L.sD) L.sM.nm (defBody L.sD.st) && lkMix (ct0 L L.sM) (defBody L.sM.st)
theorem lookup_map {β : Type} {g : Df → β} : ∀ {l : List Df} {f : Nat} {b : β}, (l.map fun d => (d.f, g d)).lookup f = some b → ∃ d ∈ l, d.f = f ∧ g d = b
  | [], _, _, h => by cases h
  | d :: r, f, b, h => by
    rw [List.map_cons, List.lookup_cons] at h
    by_cases e : f = d.f
    · subst e
      rw [beq_self_eq_true] at h
      exact ⟨d, List.mem_cons_self .., rfl, Option.some.inj h⟩
    · rw [beq_eq_false_iff_ne.mpr e] at h
      obtain ⟨d', h1, h2⟩ := lookup_map h
      exact ⟨d', List.mem_cons_of_mem _ h1, h2⟩
theorem lookup_two {l : List Df} {f : Nat} {nm : Str} (h : (l.map fun d => (d.f, d.nm)).lookup f = some nm) : ∃ d ∈ l, d.f = f ∧ d.nm = nm ∧ (l.map fun d => (d.f, d.fd)).lookup f = some d.fd ∧ (l.map fun d => (d.f, d.dfl)).lookup f = some d.dfl := by
  induction l with
  | nil => cases h
  | cons d r ih =>
    rw [List.map_cons, List.lookup_cons] at h
    by_cases e : f = d.f
    · subst e
      rw [beq_self_eq_true] at h
      refine ⟨d, List.mem_cons_self .., rfl, Option.some.inj h, ?_, ?_⟩
      · rw [List.map_cons, List.lookup_cons, beq_self_eq_true]
      · rw [List.map_cons, List.lookup_cons, beq_self_eq_true]
    · rw [beq_eq_false_iff_ne.mpr e] at h
      obtain ⟨d', h1, h2, h3, h4, h5⟩ := ih h
      refine ⟨d', List.mem_cons_of_mem _ h1, h2, h3, ?_, ?_⟩
      · rw [List.map_cons, List.lookup_cons, beq_eq_false_iff_ne.mpr e]
        exact h4
      · rw [List.map_cons, List.lookup_cons, beq_eq_false_iff_ne.mpr e]
        exact h5
theorem lookup_app {β : Type} : ∀ {l r : List (Nat × β)} {k : Nat} {b : β}, l.lookup k = some b → (l ++ r).lookup k = some b
  | (a, b) :: l, r, k, c, h => by
    rw [List.lookup_cons] at h
    rw [List.cons_append, List.lookup_cons]
    by_cases e : k = a
    · subst e
      rw [beq_self_eq_true] at h ⊢
      exact h
    · rw [beq_eq_false_iff_ne.mpr e] at h ⊢
      exact lookup_app h
theorem lookup_nd {β : Type} : ∀ {l : List (Nat × β)} {k : Nat} {b : β}, (l.map (·.1)).Nodup → (k, b) ∈ l → l.lookup k = some b
  | (a, x) :: l, k, b, hn, h => by
    obtain ⟨n1, n2⟩ := List.nodup_cons.mp (show (a :: l.map (·.1)).Nodup from hn)
    rw [List.lookup_cons]
    rcases List.mem_cons.mp h with e | h
    · cases e
      rw [beq_self_eq_true]
    · have : k ≠ a := fun z => n1 (z ▸ List.mem_map_of_mem (f := (·.1)) h)
      rw [beq_eq_false_iff_ne.mpr this]
      exact lookup_nd n2 h
/-- what is decided of the exception classes' text -/
def mB (L : Lw) : Bool := L.ms.all (fun m => scB m.N m.N (defScope m.st) && initB (defScope m.st) L.ba m.N ((L.fl.lookup m.f).getD Str.empty) (defBody m.st) && (L.fl.lookup m.f).isSome)
  && L.cl.all (fun c => (match c.2.2 with
    | none => true
    | some f => L.ms.any fun m => decide (m.c = c.1) && decide (m.f = f) && decide (m.cn = c.2.1)) && decide (L.cl.lookup c.1 = some c.2) && !decide (c.1 = 100)) && L.fl.all (fun f => decide (L.fl.lookup f.1 = some f.2)) && L.bl.contains "ValueError"
theorem lookup_in {β : Type} : ∀ {l : List (Nat × β)} {k : Nat} {b : β}, l.lookup k = some b → (k, b) ∈ l
  | (a, b) :: l, k, c, h => by
    rw [List.lookup_cons] at h
    by_cases e : k = a
    · subst e
      rw [beq_self_eq_true] at h
      rw [Option.some.inj h]
      exact List.mem_cons_self
    · rw [beq_eq_false_iff_ne.mpr e] at h
      exact List.mem_cons_of_mem _ (lookup_in h)
theorem lookup_fst : ∀ {l : List (Nat × Str × Option Nat)} {k : Nat} {n : Str}, (l.map fun c => (c.1, c.2.1)).lookup k = some n → ∃ o, l.lookup k = some (n, o)
  | (a, b, o) :: l, k, n, h => by
    rw [List.map_cons, List.lookup_cons] at h
    rw [List.lookup_cons]
    by_cases e : k = a
    · subst e
      rw [beq_self_eq_true] at h
      rw [beq_self_eq_true]
      exact ⟨o, by rw [← Option.some.inj h]⟩
    · rw [beq_eq_false_iff_ne.mpr e] at h
      rw [beq_eq_false_iff_ne.mpr e]
      exact lookup_fst h
theorem ex_ok {P : Program} {w : World} {mg : Str → Option Value} {base h : Heap} {K : PySem.W.Frag} (L : Lw) (KX : K.In h) (Gm : h.Ns mainGlobals mg) (c : L.Says K) (hI : AllI L.ms) (hM : mB L = true) :
    ExOk P w mg base (L.G K) (fun c => L.n.xc.lookup c) (fun c => L.n.xn.lookup c) (fun f => L.n.fl.lookup f) := by
  have ce := c.e
  unfold Lw.ex eqV at ce
  unfold mB at hM
  simp only [Bool.and_eq_true, List.all_eq_true, decide_eq_true_eq, Bool.or_eq_true, Bool.not_eq_true', decide_eq_false_iff_not, List.any_eq_true] at ce hM
  obtain ⟨⟨ce1, ce2⟩, ce3⟩ := ce
  obtain ⟨⟨⟨hM1, hM2⟩, hM3⟩, hM4⟩ := hM
  have one : ∀ {k : Nat} {z : Str × Option Nat}, L.cl.lookup k = some z → (k, z) ∈ L.cl ∧ (L.G K).cls k = He.ga K z.1 ∧ mg z.1 = some (.ref (He.ga K z.1)) ∧ ClOk K (He.ga K z.1) := fun {k z} e => by
    have hm := lookup_in e
    obtain ⟨⟨⟨⟨h1, h2⟩, _⟩, _⟩, _⟩ := ce1 _ hm
    refine ⟨hm, ?_, He.glo_ok KX Gm h1, clB_ok h2⟩
    show He.ga K (((L.cl.lookup k).map (·.1)).getD (((L.oc.lookup k).map (·.1)).getD Str.empty)) = _
    rw [e]
    rfl
  have known : ∀ {k : Nat}, k ∈ (L.G K).xk → ∃ z, L.cl.lookup k = some z := fun {k} hk => by
    obtain ⟨p, hp, e⟩ := List.mem_map.mp (show k ∈ L.cl.map (·.1) from hk)
    exact ⟨p.2, by rw [← e]; exact (hM2 _ hp).1.2⟩
  have fld : ∀ {f : Nat} {nm : Str}, L.fl.lookup f = some nm → (L.G K).fld f = nm := fun {f nm} e => by
    show (L.fl.lookup f).getD ((L.ofl.lookup f).getD Str.empty) = _
    rw [e]
    rfl
  have names : ∀ {k : Nat} {nm : Str}, L.n.xn.lookup k = some nm → (k = 100 ∧ nm = "ValueError") ∨ (k ≠ 100 ∧ ∃ o, L.cl.lookup k = some (nm, o)) := fun {k nm} e => by
    have e : ((100, ("ValueError" : Str)) :: L.cl.map (fun c => (c.1, c.2.1))).lookup k = some nm := e
    rw [List.lookup_cons] at e
    by_cases hk : k = 100
    · subst hk
      rw [beq_self_eq_true] at e
      exact .inl ⟨rfl, (Option.some.inj e).symm⟩
    · rw [beq_eq_false_iff_ne.mpr hk] at e
      exact .inr ⟨hk, lookup_fst e⟩
  refine ⟨fun k nm fo e => ?_, fun k nm e => ?_, fun k' nm' e k hk => ?_, fun f nm e => ?_⟩
  · obtain ⟨hm, e1, e2, T⟩ := one e
    refine ⟨List.mem_map_of_mem (f := (·.1)) hm, by rw [e1]; exact e2, by rw [e1]; exact T, ?_⟩
    cases fo with
    | none =>
      obtain ⟨⟨⟨_, h3⟩, _⟩, _⟩ := ce1 _ hm
      show PySem.W.excIn K ((L.G K).cls k) He.veBase "ValueError.__new__" = true
      rw [e1]
      rcases h3 with h3 | h3
      · cases h3
      · exact h3
    | some f =>
      obtain ⟨⟨hm2, _⟩, _⟩ := hM2 _ hm
      have hm2 : (L.ms.any fun m => decide (m.c = k) && decide (m.f = f) && decide (m.cn = nm)) = true := hm2
      simp only [List.any_eq_true, Bool.and_eq_true, decide_eq_true_eq] at hm2
      obtain ⟨m, mm, ⟨m1, m2⟩, m3⟩ := hm2
      subst m1 m2 m3
      obtain ⟨⟨s1, s2⟩, s3⟩ := hM1 _ mm
      obtain ⟨fnm, hf⟩ := Option.isSome_iff_exists.mp s3
      obtain ⟨i, hi⟩ := List.getElem?_of_mem (show m.he ∈ L.fn from List.mem_append_right _ (List.mem_append_left _ (List.mem_map_of_mem mm)))
      obtain ⟨fd, F⟩ := c.d.def_ i hi
      have F : FunD K "__init__" m.qual (defArgs m.st) (defBody m.st) (defScope m.st) [] [] (He.ma K (He.ga K m.cn) "__init__") fd := F
      have M := He.meth_ok (ce2 _ mm)
      have hb : He.Fa.ok K (He.Fa.glo L.ba) = true ∧ bsB K (He.ga K L.ba) = true := by
        rcases ce3 with q | q
        · rw [List.isEmpty_iff.mp q] at mm
          cases mm
        · exact q
      obtain ⟨_, hfl⟩ := ce1 _ hm
      have hno : PySem.W.findIn K (.ref (He.ga K m.cn)) fnm = some none := by
        obtain ⟨⟨⟨_, _⟩, h4⟩, _⟩ := ce1 _ hm
        exact h4 _ (lookup_in hf)
      have ef := fld hf
      have egl : ((L.fl.lookup m.f).getD Str.empty) = fnm := by rw [hf]; rfl
      rw [egl] at s2
      refine ⟨_, fd, m.N, init_ok (G := L.G K) (c := m.c) (f := m.f) (B := He.ga K L.ba) (b := L.ba) F (scB_ok s1) (by rw [ef]; exact s2) (by rw [e1]; exact T) (by rw [e1, ef]; exact hno) (bsB_ok hb.2) (He.glo_ok KX Gm hb.1), FunD.bindsN F (hI.mem mm), by rw [e1]; exact M.1, beq_iff_eq.mp M.2⟩
  · rcases names e with ⟨rfl, rfl⟩ | ⟨hk, o, e2⟩
    · exact .inl ⟨rfl, rfl, He.free_ok KX Gm (fact_mem c.d (List.mem_append_right _ (List.mem_append_right _ (List.mem_append_left _ (List.mem_map_of_mem (List.contains_iff_mem.mp hM4))))))⟩
    · obtain ⟨hm, e1, e3, T⟩ := one e2
      exact .inr ⟨hk, by rw [e1]; exact e3⟩
  · obtain ⟨z, e2⟩ := known hk
    obtain ⟨hm, e1, _, T⟩ := one e2
    obtain ⟨_, hall⟩ := ce1 _ hm
    rw [e1]
    have key : ∃ d ∈ ((100, ("ValueError" : Str), (none : Option Nat)) :: L.cl), d.1 = k' ∧ clsW K d.1 d.2.1 = clsV (L.G K) k' := by
      rcases names e with ⟨rfl, rfl⟩ | ⟨hk', o, e3⟩
      · exact ⟨_, List.mem_cons_self, rfl, rfl⟩
      · obtain ⟨hm', e4, _, _⟩ := one e3
        refine ⟨_, List.mem_cons_of_mem _ hm', rfl, ?_⟩
        unfold clsW clsV
        rw [if_neg hk', if_neg hk', e4]
    obtain ⟨d, hd, rfl, e5⟩ := key
    obtain ⟨h1, h2⟩ := hall d hd
    rw [← e5]
    exact ⟨T, h1, h2⟩
  · refine ⟨fld e, fun k hk => ?_⟩
    obtain ⟨z, e2⟩ := known hk
    obtain ⟨hm, e1, _, T⟩ := one e2
    rw [e1]
    obtain ⟨⟨⟨_, _⟩, h4⟩, _⟩ := ce1 _ hm
    exact ⟨T, h4 _ (lookup_in e)⟩
theorem srcs {P : Program} {w : World} {mg : Str → Option Value} {base h : Heap} {K : PySem.W.Frag} (L : Lw) (KX : K.In h) (Gm : h.Ns mainGlobals mg) (c : L.Says K) (hB : AllB L.all) (hI : AllI L.ms) (hM : mB L = true) (hH : hdB L = true) (hD : L.ds.all (dfB L) = true) :
    ∀ f nm, L.n.fn.lookup f = some nm → Src P w mg base (L.G K) L.T L.cst L.n f nm := by
  have glo : ∀ d ∈ L.all, mg d.nm = some (.ref (He.ga K d.nm)) := fun d hd => He.glo_ok KX Gm (fact_mem c.d (List.mem_append_right _ (List.mem_append_left _ (List.mem_map_of_mem hd))))
  have fun_ : ∀ d ∈ L.all, ∃ fd, FunD K d.nm d.nm (defArgs d.st) (defBody d.st) (defScope d.st) (d.dfl.map Cn.v) [] (He.ga K d.nm) fd ∧ (Binds K fd d.ps [] ∧ ∀ j, j < d.dfl.length → ∃ us, Vals ((d.dfl.drop j).map Cn.v) us ∧ Binds K fd d.ps us) := fun d hd => by
    obtain ⟨i, hi⟩ := List.getElem?_of_mem (show d.he ∈ L.fn from List.mem_append_left _ (List.mem_map_of_mem (f := Df.he) hd))
    obtain ⟨fd, F⟩ := c.d.def_ i hi
    rw [he_dvs] at F
    exact ⟨fd, F, binds_of F (hB.mem hd)⟩
  have free : ∀ x, L.n.bl.contains x = true → mg x = none := fun x hx => by
    have hx' : x ∈ L.bl := List.contains_iff_mem.mp (show L.bl.contains x = true from hx)
    exact He.free_ok KX Gm (fact_mem c.d (List.mem_append_right _ (List.mem_append_right _ (List.mem_append_left _ (List.mem_map_of_mem hx')))))
  have mS : L.sS ∈ L.all := List.mem_cons_self ..
  have mD : L.sD ∈ L.all := List.mem_cons_of_mem _ (List.mem_cons_self ..)
  have mM : L.sM ∈ L.all := List.mem_cons_of_mem _ (List.mem_cons_of_mem _ (List.mem_cons_self ..))
  unfold hdB at hH
  simp only [Bool.and_eq_true, decide_eq_true_eq] at hH
  obtain ⟨⟨⟨⟨⟨⟨⟨⟨⟨⟨⟨⟨⟨⟨⟨⟨⟨⟨⟨g1, g2⟩, g3⟩, g4⟩, g5⟩, g6⟩, g7⟩, g8⟩, g9⟩, g10⟩, g11⟩, g12⟩, f1⟩, f2⟩, f3⟩, f4⟩, f5⟩, g13⟩, g14⟩, g15⟩ := hH
  obtain ⟨fS, FS, BS, _⟩ := fun_ _ mS
  obtain ⟨fD, FD, BD, _⟩ := fun_ _ mD
  obtain ⟨fM, FM, BM, _⟩ := fun_ _ mM
  rw [f1] at FS
  rw [f2] at FD
  rw [f3] at FM
  have t0 : L.T 1000 = some .start := by unfold Lw.T; rw [if_pos rfl]
  have t1 : L.T 1001 = some .draw := by unfold Lw.T; rw [if_neg (by decide), if_pos rfl]
  intro f nm hf
  have hf : ((L.sS.f, L.sS.nm) :: (L.sD.f, L.sD.nm) :: L.ds.map (fun d => (d.f, d.nm))).lookup f = some nm := hf
  rw [g1, g2] at hf
  by_cases e0 : f = 1000
  · subst e0
    have e : L.sS.nm = nm := Option.some.inj hf
    subst e
    exact src_start free t0 f4 (glo _ mS) FS BS g4 g7 g8 g13
  · by_cases e1 : f = 1001
    · subst e1
      have e : L.sD.nm = nm := Option.some.inj hf
      subst e
      exact src_draw free t1 f5 g3 (glo _ mD) FD BD g5 g9 g10 (glo _ mM) FM BM g6 g11 g12 g15 g14
    · rw [List.lookup_cons, beq_eq_false_iff_ne.mpr e0] at hf
      have hf : ((1001, L.sD.nm) :: L.ds.map (fun d => (d.f, d.nm))).lookup f = some nm := hf
      rw [List.lookup_cons, beq_eq_false_iff_ne.mpr e1] at hf
      obtain ⟨d, hd, rfl, rfl, hl, hl2⟩ := lookup_two hf
      have ha : d ∈ L.all := List.mem_cons_of_mem _ (List.mem_cons_of_mem _ (List.mem_cons_of_mem _ hd))
      obtain ⟨fd, F, B⟩ := fun_ _ ha
      have hd2 := List.all_eq_true.mp hD d hd
      unfold dfB at hd2
      simp only [Bool.and_eq_true, decide_eq_true_eq, Bool.not_eq_true', decide_eq_false_iff_not] at hd2
      obtain ⟨⟨⟨k1, k2⟩, k3⟩, k4⟩ := hd2
      have ed : (L.n.df.lookup d.f).getD [] = d.dfl := by
        show (((L.ds.map fun d => (d.f, d.dfl)) ++ L.mt.map (fun m => (m.d.f, m.d.dfl))).lookup d.f).getD [] = _
        rw [lookup_app hl2]
        rfl
      refine .df d ?_ rfl (glo _ ha) F (by rw [ed]; exact B) k1 k2
      unfold Lw.T
      rw [if_neg e0, if_neg e1]
      exact lookup_app hl
theorem own_ok {P : Program} {w : World} {mg : Str → Option Value} {base h : Heap} {K : PySem.W.Frag} (L : Lw) (KX : K.In h) (Gm : h.Ns mainGlobals mg) (c : L.Says K) (hBM : AllBM L.mt) (hBK : AllBK L.ki) (hO : ownB L = true) :
    Ow0 (L.G K) L.n ∧ (∀ f c nm, L.n.omt.lookup f = some (c, nm) → SrcM P w mg base (L.G K) L.T L.cst L.n f c nm) ∧ (∀ f c nm, L.n.omk.lookup f = some (c, nm) → SrcK P w mg base (L.G K) L.T L.cst L.n f c nm) := by
  unfold ownB at hO
  simp only [Bool.and_eq_true, List.all_eq_true, decide_eq_true_eq, Bool.or_eq_true, Bool.not_eq_true', decide_eq_false_iff_not] at hO
  obtain ⟨⟨⟨⟨o1, o2⟩, o3⟩, o4⟩, o5⟩ := hO
  have fact : ∀ f ∈ L.own, f.ok K = true := fun f hf => fact_mem c.d (List.mem_append_right _ (List.mem_append_right _ (List.mem_append_right _ hf)))
  have ocm : ∀ x ∈ L.oc, He.Fa.glo x.2.1 ∈ L.own ∧ He.Fa.cls x.2.1 ∈ L.own ∧ ∀ f ∈ x.2.2, He.Fa.noat x.2.1 (L.fld f) ∈ L.own := fun x hx => by
    have key : ∀ y ∈ (He.Fa.glo x.2.1 :: He.Fa.cls x.2.1 :: x.2.2.map fun f => He.Fa.noat x.2.1 (L.fld f)), y ∈ L.own := fun y hy => List.mem_append_left _ (List.mem_flatMap.mpr ⟨x, hx, hy⟩)
    exact ⟨key _ (List.mem_cons_self ..), key _ (List.mem_cons_of_mem _ (List.mem_cons_self ..)), fun f hf => key _ (List.mem_cons_of_mem _ (List.mem_cons_of_mem _ (List.mem_map_of_mem (f := fun f => He.Fa.noat x.2.1 (L.fld f)) hf)))⟩
  have look : ∀ {c : Nat} {cn : Str} {fs : List Nat}, L.oc.lookup c = some (cn, fs) → (c, cn, fs) ∈ L.oc ∧ (L.G K).cls c = He.ga K cn ∧ (L.G K).ofs c = fs ∧ c ∈ (L.G K).oc := fun {c cn fs} e => by
    have hm := lookup_in e
    obtain ⟨⟨_, q⟩, _⟩ := o2 _ hm
    have q : L.cl.lookup c = none := q
    refine ⟨hm, ?_, ?_, List.mem_map_of_mem (f := (·.1)) hm⟩
    · show He.ga K (((L.cl.lookup c).map (·.1)).getD (((L.oc.lookup c).map (·.1)).getD Str.empty)) = _
      rw [q, e]
      rfl
    · show ((L.oc.lookup c).map (·.2)).getD [] = _
      rw [e]
      rfl
  have inoc : ∀ {c : Nat}, c ∈ (L.G K).oc → ∃ cn fs, L.oc.lookup c = some (cn, fs) := fun {c} hc => by
    obtain ⟨x, hx, e⟩ := List.mem_map.mp (show c ∈ L.oc.map (·.1) from hc)
    obtain ⟨⟨q, _⟩, _⟩ := o2 x hx
    exact ⟨x.2.1, x.2.2, by rw [← e]; exact q⟩
  have nd : (((L.ds.map fun d => (d.f, d.fd)) ++ ((L.mt.map fun m => (m.d.f, m.d.fd)) ++ L.ki.map fun m => (m.k.f, FD.ini m.k.c m.k.ps.length m.k.N.length m.k.is))).map (·.1)).Nodup := by
    have e : (((L.ds.map fun d => (d.f, d.fd)) ++ ((L.mt.map fun m => (m.d.f, m.d.fd)) ++ L.ki.map fun m => (m.k.f, FD.ini m.k.c m.k.ps.length m.k.N.length m.k.is))).map (·.1)) = L.ds.map (·.f) ++ (L.mt.map (fun m => m.d.f) ++ L.ki.map (fun m => m.k.f)) := by
      simp [Function.comp_def]
    rw [e]
    exact o1
  have ndd : (((L.ds.map fun d => (d.f, d.dfl)) ++ L.mt.map (fun m => (m.d.f, m.d.dfl))).map (·.1)).Nodup := by
    have e : (((L.ds.map fun d => (d.f, d.dfl)) ++ L.mt.map (fun m => (m.d.f, m.d.dfl))).map (·.1)) = L.ds.map (·.f) ++ L.mt.map (fun m => m.d.f) := by
      simp [Function.comp_def]
    rw [e]
    rw [← List.append_assoc] at o1
    exact (List.nodup_append.mp o1).1
  refine ⟨⟨fun c hc => ?_, fun c hc f hf g hg e => ?_, fun f nm e => ?_⟩, fun f c' nm e => ?_, fun f c' nm e => ?_⟩
  · obtain ⟨cn, fs, e⟩ := inoc hc
    obtain ⟨hm, e1, e2, _⟩ := look e
    obtain ⟨f1, f2, f3⟩ := ocm _ hm
    rw [e1]
    refine ⟨He.cls_ok (fact _ f2), fun f hf => ?_⟩
    rw [e2] at hf
    exact He.noat_ok (fact _ (f3 f hf))
  · obtain ⟨cn, fs, e0⟩ := inoc hc
    obtain ⟨hm, e1, e2, _⟩ := look e0
    rw [e2] at hf hg
    rcases (o2 _ hm).2 f hf g hg with q | q
    · exact q
    · exact absurd e q
  · obtain ⟨q1, q2⟩ := o3 _ (lookup_in e)
    have q1 : L.fl.lookup f = none := q1
    show (L.fl.lookup f).getD ((L.ofl.lookup f).getD Str.empty) = _
    have e : L.ofl.lookup f = some nm := e
    rw [q1, e]
    rfl
  · obtain ⟨m, hm, em⟩ := List.mem_map.mp (lookup_in (show (L.mt.map fun m => (m.d.f, (m.c, m.d.nm))).lookup f = some (c', nm) from e))
    cases em
    obtain ⟨⟨⟨⟨p1, p2⟩, p3⟩, p4⟩, p5⟩ := o4 m hm
    cases eo : L.oc.lookup m.c with
    | none => rw [eo] at p1; cases p1
    | some z =>
      obtain ⟨cn, fs⟩ := z
      rw [eo] at p1
      simp only [Bool.and_eq_true, List.all_eq_true, decide_eq_true_eq, Bool.not_eq_true', decide_eq_false_iff_not] at p1
      obtain ⟨rfl, p6⟩ := p1
      obtain ⟨hoc, e1, e2, e3⟩ := look eo
      obtain ⟨i, hi⟩ := List.getElem?_of_mem (show m.he ∈ L.fn from List.mem_append_right _ (List.mem_append_right _ (List.mem_append_left _ (List.mem_map_of_mem hm))))
      obtain ⟨fd, F⟩ := c.d.def_ i hi
      rw [he_dvsM] at F
      have F : FunD K m.d.nm m.qual (defArgs m.d.st) (defBody m.d.st) (defScope m.d.st) (m.d.dfl.map Cn.v) [] (He.ma K (He.ga K m.cn) m.d.nm) fd := F
      have M := He.meth_ok (fact _ (List.mem_append_right _ (List.mem_append_left _ (List.mem_map_of_mem (f := fun m : Md => He.Fa.meth m.cn m.d.nm) hm))))
      have ed : (L.n.df.lookup m.d.f).getD [] = m.d.dfl := by
        show (((L.ds.map fun d => (d.f, d.dfl)) ++ L.mt.map (fun m => (m.d.f, m.d.dfl))).lookup m.d.f).getD [] = _
        rw [lookup_nd ndd (List.mem_append_right _ (List.mem_map_of_mem (f := fun m : Md => (m.d.f, m.d.dfl)) hm))]
        rfl
      refine .mk m.d ?_ rfl e3 (fun g hg => ?_) (by rw [e1]; exact M) F (by rw [ed]; exact binds_of F (hBM.mem hm)) p2 p3
      · unfold Lw.T
        rw [if_neg p4, if_neg p5]
        exact lookup_nd nd (List.mem_append_right _ (List.mem_append_left _ (List.mem_map_of_mem (f := fun m : Md => (m.d.f, m.d.fd)) hm)))
      · rw [e2] at hg
        exact p6 g hg
  · obtain ⟨m, hm, em⟩ := List.mem_map.mp (lookup_in (show (L.ki.map fun m => (m.k.f, (m.k.c, m.k.cn))).lookup f = some (c', nm) from e))
    cases em
    obtain ⟨⟨⟨p1, p2⟩, p4⟩, p5⟩ := o5 m hm
    cases eo : L.oc.lookup m.k.c with
    | none => rw [eo] at p1; cases p1
    | some z =>
      obtain ⟨cn, fs⟩ := z
      rw [eo] at p1
      simp only [Bool.and_eq_true, decide_eq_true_eq] at p1
      obtain ⟨rfl, p6⟩ := p1
      obtain ⟨hoc, e1, e2, e3⟩ := look eo
      obtain ⟨i, hi⟩ := List.getElem?_of_mem (show m.he ∈ L.fn from List.mem_append_right _ (List.mem_append_right _ (List.mem_append_right _ (List.mem_map_of_mem hm))))
      obtain ⟨fd, F⟩ := c.d.def_ i hi
      have F : FunD K "__init__" m.qual (defArgs m.k.st) (defBody m.k.st) (defScope m.k.st) (m.he.dvs K) [] (He.ma K (He.ga K m.k.cn) "__init__") fd := F
      have M := He.mkr_ok (fact _ (List.mem_append_right _ (List.mem_append_right _ (List.mem_map_of_mem (f := fun m : Kdf => He.Fa.mkr m.k.cn) hm))))
      obtain ⟨f1, _, _⟩ := ocm _ hoc
      refine .mk m.k ?_ rfl rfl e3 (by rw [e1]; exact He.glo_ok KX Gm (fact _ f1)) (by rw [e1]; exact M) F (bindsK_of F (hBK.mem hm)) (by rw [e2]; exact p6) p2
      unfold Lw.T
      rw [if_neg p4, if_neg p5]
      exact lookup_nd nd (List.mem_append_right _ (List.mem_append_right _ (List.mem_map_of_mem (f := fun m : Kdf => (m.k.f, FD.ini m.k.c m.k.ps.length m.k.N.length m.k.is)) hm)))
theorem hg_of {L : Lw} (cs : List (Nat × Str × Gc)) (h1 : L.gn = cs.map fun c => (c.1, c.2.1)) (h2 : L.gf = cs.map fun c => cnFa c.2.1 c.2.2) (h3 : cs.all (fun c => cnOk c.2.2) = true) (h4 : ∀ K, L.gx K = true → cs.all (fun c => cnX c.2.1 c.2.2 K) = true) (K : PySem.W.Frag) (h : Heap) (mg : Str → Option Value) (KX : K.In h) (Gm : h.Ns mainGlobals mg) (c : L.Says K) :
    ∀ g nm, L.gn.lookup g = some nm → ∃ (u : Value) (v : V), mg nm = some u ∧ RelV v u ∧ ∀ W, Rep (L.G K) W v (gcGv (cs.map fun c => (c.1, c.2.2)) g) := by
  intro g nm e
  rw [h1] at e
  obtain ⟨cc, m1, m2⟩ := look3 e
  have hf : (cnFa nm cc).ok K = true := fact_mem c.d (List.mem_append_left _ (by rw [h2]; exact List.mem_map_of_mem (f := fun c : Nat × Str × Gc => cnFa c.2.1 c.2.2) m1))
  have e2 : gcGv (cs.map fun c => (c.1, c.2.2)) g = cc.d := by
    unfold gcGv
    rw [m2]
    rfl
  rw [e2]
  exact cn_glob (G := L.G K) KX Gm (List.all_eq_true.mp h3 _ m1) hf (List.all_eq_true.mp (h4 K c.x) _ m1)
/-- what the top tells of the heap: the facts, and the others -/
def asP (g : Addr → Option Obj) (n : Nat) : List Addr := He.asD g n ++ [PySem.cStatics]
def obsP (n : Nat) (L : Lw) (g : Addr → Option Obj) : He.AlD × Bool := (He.obsD L.fa L.fn (He.frG g (asP g n)), L.gx (He.frG g (asP g n)) && L.ex (He.frG g (asP g n)))
def hookP (n : Nat) (L : Lw) : PySem.W.Hook where
  α := He.AlD × Bool
  obs := fun s => obsP n L s.heap.get?
  val := fun _ => (He.valD L.fn, true)
  says := fun _ h => ∃ K : PySem.W.Frag, K.In h ∧ L.Says K
  of := fun _ _ e => ⟨_, He.frG_in, congrArg Prod.fst e, (Bool.and_eq_true_iff.mp (congrArg Prod.snd e)).1, (Bool.and_eq_true_iff.mp (congrArg Prod.snd e)).2⟩
  keeps := fun _ _ _ ⟨K, hK, c⟩ k => ⟨K, PySem.W.Frag.In.keeps hK k, c⟩
theorem obsP_eq {n : Nat} {L : Lw} {g : Addr → Option Obj} {s : Shared} (h : ∀ a, g a = s.heap.get? a) : obsP n L g = (hookP n L).obs s := by
  have e : g = s.heap.get? := funext h
  rw [e] <;> rfl
/-- the law's own def, its number 1006 -/
theorem law_fn {P : Program} {w : World} {mg : Str → Option Value} {h : Heap} {K : PySem.W.Frag} (L : Lw) (KX : K.In h) (Gm : h.Ns mainGlobals mg) (c : L.Says K) (hB : AllB L.all) (hBM : AllBM L.mt) (hBK : AllBK L.ki) (hO : ownB L = true) (hI : AllI L.ms) (hM : mB L = true) (hH : hdB L = true) (hD : L.ds.all (dfB L) = true)
    (gv : Nat → D) (hg : ∀ g nm, L.gn.lookup g = some nm → ∃ (u : Value) (v : V), mg nm = some u ∧ RelV v u ∧ ∀ W, Rep (L.G K) W v (gv g)) (k : Nat) (d : Df) (hd : d ∈ L.ds) (hf : d.f = 1006) (hT : L.T 1006 = some d.fd) (hps : d.ps.length = 1) (hdf : d.dfl = [])
    (hcs : L.cst 1006 ≤ LIM) {x : Str} (hx : d.ps = [x])
    (law : ∀ ns : List Int, ns.length ≤ 63 → (∀ z ∈ ns, Builtin.Int.intBits z ≤ 1048576) → run L.T gv k true 1006 [.scr ns] (fun _ => none) (fun r _ => r = .bl true) NoX) :
    ∃ (fd : FuncData) (sp : Sp), mg d.nm = some (.ref (He.ga K d.nm)) ∧ (∀ (s : Shared) (u : Value), BindsTo s fd ⟨[u], []⟩ [(x, u)]) ∧
      (∀ (H : Hp) (a : Addr) (ns : List Int), ns.length ≤ 63 → (∀ z ∈ ns, Builtin.Int.intBits z ≤ 1048576) → Only H → SqL K H a (ns.map V.int) → sp [.ref a] H (fun v _ => v = .bl true) fun _ _ _ => False) ∧
      ∀ base : Heap, K.In base → base.Ns mainGlobals mg → FnOk P w K mg base (L2.CX P w) (2 * k + 2) (He.ga K d.nm) fd [x] sp := by
  have ha : d ∈ L.all := List.mem_cons_of_mem _ (List.mem_cons_of_mem _ (List.mem_cons_of_mem _ hd))
  have glo : mg d.nm = some (.ref (He.ga K d.nm)) := He.glo_ok KX Gm (fact_mem c.d (List.mem_append_right _ (List.mem_append_left _ (List.mem_map_of_mem ha))))
  obtain ⟨i, hi⟩ := List.getElem?_of_mem (show d.he ∈ L.fn from List.mem_append_left _ (List.mem_map_of_mem (f := Df.he) ha))
  obtain ⟨fd, F⟩ := c.d.def_ i hi
  rw [he_dvs, hdf] at F
  have F : FunD K d.nm d.nm (defArgs d.st) (defBody d.st) (defScope d.st) [] [] (He.ga K d.nm) fd := F
  have hB2 : BindP d.nm d := by
    rcases hB.mem ha with h | h
    · exact h.2
    · exact absurd hdf h.1
  refine ⟨fd, spD (L.G K) (run L.T gv k) L.cst 1006, glo, fun s u => ?_, fun H a ns hl hb hO hS => ?_, fun base KB GB => ?_⟩
  · have b := FunD.bindsA (ps := d.ps) F hB2 s [u] (by rw [hps]; rfl)
    rw [hx] at b
    exact b
  · refine ⟨{ F := H, dr := [], n := 0 }, fun _ => none, [.scr ns], fun r _ => r = .bl true, NoX, law ns hl hb, ⟨fun _ _ q => q, fun _ _ q => (by cases q), fun _ _ q => (by cases q), fun _ q => (by cases q), fun b q => ?_, fun _ q => (by cases q), fun _ q => (by cases q), fun b xs q => ?_⟩, .cons (.scr hS) .nil, by show 0 + _ ≤ _; omega, fun r m' v H' W' _ _ rp q => ?_, fun _ _ _ _ _ _ _ _ _ q => q.elim⟩
    · obtain ⟨t, ht, _⟩ := q
      cases ht
    · rcases hO b with e | ⟨o, ys, e⟩
      · rw [e] at q
        rcases q with q | q | ⟨z, q⟩ <;> cases q
      · rw [e] at q
        rcases q with q | q | ⟨z, q⟩ <;> cases q
    · subst q
      cases rp
      rfl
  · have e1 : Env1 P w mg base (L.G K) gv L.n := ⟨hg, fun x hx => by
      have hx' : x ∈ L.bl := List.contains_iff_mem.mp (show L.bl.contains x = true from hx)
      exact He.free_ok KX Gm (fact_mem c.d (List.mem_append_right _ (List.mem_append_right _ (List.mem_append_left _ (List.mem_map_of_mem hx'))))), ex_ok L KX Gm c hI hM⟩
    have hd2 := List.all_eq_true.mp hD d hd
    unfold dfB at hd2
    simp only [Bool.and_eq_true, decide_eq_true_eq, Bool.not_eq_true', decide_eq_false_iff_not] at hd2
    obtain ⟨⟨⟨k1, k2⟩, k3⟩, k4⟩ := hd2
    cases k with
    | zero =>
      refine ⟨fun vs H Q E q => ?_, fun A outer s H args us vs Q E _ _ _ _ q => ?_⟩
      · obtain ⟨W, m, ds, Q', X', hw, _⟩ := q
        exact hw.elim
      · obtain ⟨W, m, ds, Q', X', hw, _⟩ := q
        exact hw.elim
    | succ k =>
      obtain ⟨q1, q2, q3⟩ := own_ok (P := P) (w := w) (base := base) L KX Gm c hBM hBK hO
      have lv := level e1 q1 (srcs L KX Gm c hB hI hM hH hD) q2 q3 k
      have := def_ok (by omega) (P := P) (w := w) (base := base) (fa := He.ga K d.nm) (fd := fd) (k := 2 * k + 2) (Φ := run L.T gv k) (cst := L.cst) e1 lv.at_ lv.ow F k1 k2 (run L.T gv (k + 1)) (fun vs m Q X q => by
        rw [hf, run_succ, hT] at q
        exact q)
      rw [hf, hx] at this
      exact this.mono (by omega)
end Pk

/-! The law's end. -/
namespace Pk
open PySem L2
theorem walk_pk {l : PySem.W.OpenLaw} {k : Nat} {q : Program} {loose : List Str} {XP : (Str → Option Value) → Heap → Prop} {YP : World → Heap → Prop} {d : DefRec} (L : Lw) (hn : l.most = some 63) (hdf : d.params.defaults = []) (hr : Room (2 * k + 2) callerA)
    (hY : ∀ (w : World) (h : Heap), YP w h → ∃ K : PySem.W.Frag, K.In h ∧ L.Says K) (hB : AllB L.all) (hBM : AllBM L.mt) (hBK : AllBK L.ki) (hO : ownB L = true) (hI : AllI L.ms) (hM : mB L = true) (hH : hdB L = true) (hD : L.ds.all (dfB L) = true) (gv : Nat → D)
    (hg : ∀ (K : PySem.W.Frag) (h : Heap) (mg : Str → Option Value), K.In h → h.Ns mainGlobals mg → L.Says K → ∀ g nm, L.gn.lookup g = some nm → ∃ (u : Value) (v : V), mg nm = some u ∧ RelV v u ∧ ∀ W, Rep (L.G K) W v (gv g))
    (e : Df) (he : e ∈ L.ds) (hf : e.f = 1006) (hT : L.T 1006 = some e.fd) (hps : e.ps.length = 1) (hdl : e.dfl = []) (hcs : L.cst 1006 ≤ LIM) {x : Str} (hx : e.ps = [x]) (hnm : d.name = e.nm)
    (law : ∀ ns : List Int, ns.length ≤ 63 → (∀ z ∈ ns, Builtin.Int.intBits z ≤ 1048576) → run L.T gv k true 1006 [.scr ns] (fun _ => none) (fun r _ => r = .bl true) NoX) :
    PySem.W.WalkO q loose XP YP l.row.toRowW d [] (fun f vs => PySem.call f vs) := by
  refine Att.attach_callB hn hdf fun w s₀ s₁ mg mb fa o pm cd doc a vs ns Gr Y ho hd hcd hmg hobj hints hlen hbits hgn => ?_
  obtain ⟨K, KX, c⟩ := hY w _ Y
  obtain ⟨fd, sp, h1, hb, hsp, hF⟩ := law_fn (P := l.prog) (w := w) L KX Gr.T.g c hB hBM hBK hO hI hM hH hD gv (hg K _ mg KX Gr.T.g c) k e he hf hT hps hdl hcs hx law
  rw [hnm, h1] at hmg
  have ea : He.ga K e.nm = fa := by
    have := Option.some.inj hmg
    cases this
    rfl
  subst ea
  exact law_call KX Gr.T.g Gr.T.b Gr.T.builtins Gr.T.nolimit hgn hobj hints (Nat.le_trans hlen (by decide)) hr hF hb (fun H hO hS => hsp H a ns hlen hbits hO hS) fun H e s' z => by
    obtain ⟨_, _, _, _, _, _, _, _, _, _, _, _, z⟩ := z
    exact z.elim
end Pk

/-! Plain work with our language: the rules of the values. -/
namespace Pk
@[simp] theorem ptB_t (p : Pt) : ptB p true = true := by cases p <;> rfl
@[simp] theorem ptB_nm (i : Nat) (c : Bool) : ptB (.nm i) c = true := rfl
@[simp] theorem rd_nonS (m : Mu) : rd m .non = .non := rfl
@[simp] theorem rd_blS (m : Mu) (b : Bool) : rd m (.bl b) = .bl b := rfl
@[simp] theorem rd_intS (m : Mu) (b : Int) : rd m (.int b) = .int b := rfl
@[simp] theorem rd_strS (m : Mu) (b : List Nat) : rd m (.str b) = .str b := rfl
@[simp] theorem rd_tupS (m : Mu) (b : List D) : rd m (.tup b) = .tup b := rfl
@[simp] theorem rd_lstS (m : Mu) (b : List D) : rd m (.lst b) = .lst b := rfl
@[simp] theorem rd_objS (m : Mu) (c : Nat) (b : List (Nat × D)) : rd m (.obj c b) = .obj c b := rfl
@[simp] theorem gsR_l (m : Mu) (b : List D) : gsR m (.lst b) = [] := rfl
theorem gsR_r {m : Mu} {a : Nat} {ds : List D} (h : m a = some (.lst ds)) : gsR m (.ref a) = [(a, ds)] := by
  simp only [gsR, h]
theorem rd_refS {m : Mu} {a : Nat} {ds : List D} (h : m a = some (.lst ds)) : rd m (.ref a) = .lst ds := by
  simp [rd, h]
@[simp] theorem tru_non : truD .non = some false := rfl
@[simp] theorem tru_bl (b : Bool) : truD (.bl b) = some b := rfl
@[simp] theorem tru_int (b : Int) : truD (.int b) = some (b != 0) := rfl
/-- has some -/
def neB {α : Type} : List α → Bool
  | [] => false
  | _ :: _ => true
@[simp] theorem neB_nil {α : Type} : neB ([] : List α) = false := rfl
@[simp] theorem neB_cons {α : Type} (a : α) (l : List α) : neB (a :: l) = true := rfl
@[simp] theorem neB_map {α β : Type} (f : α → β) (l : List α) : neB (l.map f) = neB l := by cases l <;> rfl
theorem neB_ne {α : Type} {l : List α} : neB l = true ↔ l ≠ [] := by cases l <;> simp
theorem neB_not {α : Type} {l : List α} (h : l ≠ []) : neB l = true := neB_ne.mpr h
@[simp] theorem tru_tup (b : List D) : truD (.tup b) = some (neB b) := by cases b <;> rfl
@[simp] theorem tru_lst (b : List D) : truD (.lst b) = some (neB b) := by cases b <;> rfl
theorem tru_str {s : List Nat} (h : s.length ≤ line) : truD (.str s) = some (!s.isEmpty) := if_pos h
@[simp] theorem un_non : isUn .non = false := rfl
@[simp] theorem un_bl (b : Bool) : isUn (.bl b) = false := rfl
@[simp] theorem un_int (b : Int) : isUn (.int b) = false := rfl
@[simp] theorem un_str (b : List Nat) : isUn (.str b) = false := rfl
@[simp] theorem un_tup (b : List D) : isUn (.tup b) = false := rfl
@[simp] theorem un_lst (b : List D) : isUn (.lst b) = false := rfl
@[simp] theorem un_obj (c : Nat) (b : List (Nat × D)) : isUn (.obj c b) = false := rfl
@[simp] theorem un_ref (b : Nat) : isUn (.ref b) = false := rfl
@[simp] theorem un_st (b : Nat) : isUn (.st b) = false := rfl
@[simp] theorem un_scr (b : List Int) : isUn (.scr b) = false := rfl
@[simp] theorem cq_eq (x y : D) (Q : Bool → Prop) : cmpR .eq x y Q = ((scalD x y = true ∨ (flatD 40 x = true ∧ flatD 40 y = true)) ∧ Q (eqD x y)) := rfl
@[simp] theorem cq_ne (x y : D) (Q : Bool → Prop) : cmpR .ne x y Q = ((scalD x y = true ∨ (flatD 40 x = true ∧ flatD 40 y = true)) ∧ Q (!eqD x y)) := rfl
@[simp] theorem cq_lti (i j : Int) (Q : Bool → Prop) : cmpR .lt (.int i) (.int j) Q = (Q (decide (i < j))) := rfl
@[simp] theorem cq_lei (i j : Int) (Q : Bool → Prop) : cmpR .le (.int i) (.int j) Q = (Q (decide (i ≤ j))) := rfl
@[simp] theorem cq_gti (i j : Int) (Q : Bool → Prop) : cmpR .gt (.int i) (.int j) Q = (Q (decide (j < i))) := rfl
@[simp] theorem cq_gei (i j : Int) (Q : Bool → Prop) : cmpR .ge (.int i) (.int j) Q = (Q (decide (j ≤ i))) := rfl
@[simp] theorem cq_lts (s t : List Nat) (Q : Bool → Prop) : cmpR .lt (.str s) (.str t) Q = (Q (sltB s t)) := rfl
@[simp] theorem cq_les (s t : List Nat) (Q : Bool → Prop) : cmpR .le (.str s) (.str t) Q = (Q (!sltB t s)) := rfl
@[simp] theorem cq_gts (s t : List Nat) (Q : Bool → Prop) : cmpR .gt (.str s) (.str t) Q = (Q (sltB t s)) := rfl
@[simp] theorem cq_ges (s t : List Nat) (Q : Bool → Prop) : cmpR .ge (.str s) (.str t) Q = (Q (!sltB s t)) := rfl
@[simp] theorem cq_is_non  (Q : Bool → Prop) : cmpR .is .non .non Q = (Q true) := rfl
@[simp] theorem cq_isn_non  (Q : Bool → Prop) : cmpR .isn .non .non Q = (Q false) := rfl
@[simp] theorem cq_is_bl (b : Bool) (Q : Bool → Prop) : cmpR .is (.bl b) .non Q = (Q false) := rfl
@[simp] theorem cq_isn_bl (b : Bool) (Q : Bool → Prop) : cmpR .isn (.bl b) .non Q = (Q true) := rfl
@[simp] theorem cq_is_int (i : Int) (Q : Bool → Prop) : cmpR .is (.int i) .non Q = (Q false) := rfl
@[simp] theorem cq_isn_int (i : Int) (Q : Bool → Prop) : cmpR .isn (.int i) .non Q = (Q true) := rfl
@[simp] theorem cq_is_str (s : List Nat) (Q : Bool → Prop) : cmpR .is (.str s) .non Q = (Q false) := rfl
@[simp] theorem cq_isn_str (s : List Nat) (Q : Bool → Prop) : cmpR .isn (.str s) .non Q = (Q true) := rfl
@[simp] theorem cq_is_tup (ds : List D) (Q : Bool → Prop) : cmpR .is (.tup ds) .non Q = (Q false) := rfl
@[simp] theorem cq_isn_tup (ds : List D) (Q : Bool → Prop) : cmpR .isn (.tup ds) .non Q = (Q true) := rfl
@[simp] theorem cq_is_lst (ds : List D) (Q : Bool → Prop) : cmpR .is (.lst ds) .non Q = (Q false) := rfl
@[simp] theorem cq_isn_lst (ds : List D) (Q : Bool → Prop) : cmpR .isn (.lst ds) .non Q = (Q true) := rfl
@[simp] theorem cq_is_ref (a : Nat) (Q : Bool → Prop) : cmpR .is (.ref a) .non Q = (Q false) := rfl
@[simp] theorem cq_isn_ref (a : Nat) (Q : Bool → Prop) : cmpR .isn (.ref a) .non Q = (Q true) := rfl
@[simp] theorem cq_is_obj (c : Nat) (fs : List (Nat × D)) (Q : Bool → Prop) : cmpR .is (.obj c fs) .non Q = (Q false) := rfl
@[simp] theorem cq_isn_obj (c : Nat) (fs : List (Nat × D)) (Q : Bool → Prop) : cmpR .isn (.obj c fs) .non Q = (Q true) := rfl
@[simp] theorem cq_isb (a b : Bool) (Q : Bool → Prop) : cmpR .is (.bl a) (.bl b) Q = (Q (a == b)) := rfl
@[simp] theorem cq_isnb (a b : Bool) (Q : Bool → Prop) : cmpR .isn (.bl a) (.bl b) Q = (Q (a != b)) := rfl
@[simp] theorem cq_mem_non  (ds : List D) (Q : Bool → Prop) : cmpR .mem .non (.lst ds) Q = ((scaD .non = true ∧ ds.all scaD = true) ∧ Q (memD .non ds)) := rfl
@[simp] theorem cq_nmem_non  (ds : List D) (Q : Bool → Prop) : cmpR .nmem .non (.lst ds) Q = ((scaD .non = true ∧ ds.all scaD = true) ∧ Q (!memD .non ds)) := rfl
@[simp] theorem cq_memt_non  (ds : List D) (Q : Bool → Prop) : cmpR .mem .non (.tup ds) Q = ((scaD .non = true ∧ ds.all scaD = true) ∧ Q (memD .non ds)) := rfl
@[simp] theorem cq_nmemt_non  (ds : List D) (Q : Bool → Prop) : cmpR .nmem .non (.tup ds) Q = ((scaD .non = true ∧ ds.all scaD = true) ∧ Q (!memD .non ds)) := rfl
@[simp] theorem cq_mem_bl (b : Bool) (ds : List D) (Q : Bool → Prop) : cmpR .mem (.bl b) (.lst ds) Q = ((scaD (.bl b) = true ∧ ds.all scaD = true) ∧ Q (memD (.bl b) ds)) := rfl
@[simp] theorem cq_nmem_bl (b : Bool) (ds : List D) (Q : Bool → Prop) : cmpR .nmem (.bl b) (.lst ds) Q = ((scaD (.bl b) = true ∧ ds.all scaD = true) ∧ Q (!memD (.bl b) ds)) := rfl
@[simp] theorem cq_memt_bl (b : Bool) (ds : List D) (Q : Bool → Prop) : cmpR .mem (.bl b) (.tup ds) Q = ((scaD (.bl b) = true ∧ ds.all scaD = true) ∧ Q (memD (.bl b) ds)) := rfl
@[simp] theorem cq_nmemt_bl (b : Bool) (ds : List D) (Q : Bool → Prop) : cmpR .nmem (.bl b) (.tup ds) Q = ((scaD (.bl b) = true ∧ ds.all scaD = true) ∧ Q (!memD (.bl b) ds)) := rfl
@[simp] theorem cq_mem_int (i : Int) (ds : List D) (Q : Bool → Prop) : cmpR .mem (.int i) (.lst ds) Q = ((scaD (.int i) = true ∧ ds.all scaD = true) ∧ Q (memD (.int i) ds)) := rfl
@[simp] theorem cq_nmem_int (i : Int) (ds : List D) (Q : Bool → Prop) : cmpR .nmem (.int i) (.lst ds) Q = ((scaD (.int i) = true ∧ ds.all scaD = true) ∧ Q (!memD (.int i) ds)) := rfl
@[simp] theorem cq_memt_int (i : Int) (ds : List D) (Q : Bool → Prop) : cmpR .mem (.int i) (.tup ds) Q = ((scaD (.int i) = true ∧ ds.all scaD = true) ∧ Q (memD (.int i) ds)) := rfl
@[simp] theorem cq_nmemt_int (i : Int) (ds : List D) (Q : Bool → Prop) : cmpR .nmem (.int i) (.tup ds) Q = ((scaD (.int i) = true ∧ ds.all scaD = true) ∧ Q (!memD (.int i) ds)) := rfl
@[simp] theorem cq_mem_str (s : List Nat) (ds : List D) (Q : Bool → Prop) : cmpR .mem (.str s) (.lst ds) Q = ((scaD (.str s) = true ∧ ds.all scaD = true) ∧ Q (memD (.str s) ds)) := by rcases s with _ | ⟨a, _ | ⟨b, r⟩⟩ <;> rfl
@[simp] theorem cq_nmem_str (s : List Nat) (ds : List D) (Q : Bool → Prop) : cmpR .nmem (.str s) (.lst ds) Q = ((scaD (.str s) = true ∧ ds.all scaD = true) ∧ Q (!memD (.str s) ds)) := by rcases s with _ | ⟨a, _ | ⟨b, r⟩⟩ <;> rfl
@[simp] theorem cq_memt_str (s : List Nat) (ds : List D) (Q : Bool → Prop) : cmpR .mem (.str s) (.tup ds) Q = ((scaD (.str s) = true ∧ ds.all scaD = true) ∧ Q (memD (.str s) ds)) := by rcases s with _ | ⟨a, _ | ⟨b, r⟩⟩ <;> rfl
@[simp] theorem cq_nmemt_str (s : List Nat) (ds : List D) (Q : Bool → Prop) : cmpR .nmem (.str s) (.tup ds) Q = ((scaD (.str s) = true ∧ ds.all scaD = true) ∧ Q (!memD (.str s) ds)) := by rcases s with _ | ⟨a, _ | ⟨b, r⟩⟩ <;> rfl
@[simp] theorem cq_mem_tup (es : List D) (ds : List D) (Q : Bool → Prop) : cmpR .mem (.tup es) (.lst ds) Q = ((scaD (.tup es) = true ∧ ds.all scaD = true) ∧ Q (memD (.tup es) ds)) := rfl
@[simp] theorem cq_nmem_tup (es : List D) (ds : List D) (Q : Bool → Prop) : cmpR .nmem (.tup es) (.lst ds) Q = ((scaD (.tup es) = true ∧ ds.all scaD = true) ∧ Q (!memD (.tup es) ds)) := rfl
@[simp] theorem cq_memt_tup (es : List D) (ds : List D) (Q : Bool → Prop) : cmpR .mem (.tup es) (.tup ds) Q = ((scaD (.tup es) = true ∧ ds.all scaD = true) ∧ Q (memD (.tup es) ds)) := rfl
@[simp] theorem cq_nmemt_tup (es : List D) (ds : List D) (Q : Bool → Prop) : cmpR .nmem (.tup es) (.tup ds) Q = ((scaD (.tup es) = true ∧ ds.all scaD = true) ∧ Q (!memD (.tup es) ds)) := rfl
@[simp] theorem cq_mem_lst (es : List D) (ds : List D) (Q : Bool → Prop) : cmpR .mem (.lst es) (.lst ds) Q = ((scaD (.lst es) = true ∧ ds.all scaD = true) ∧ Q (memD (.lst es) ds)) := rfl
@[simp] theorem cq_nmem_lst (es : List D) (ds : List D) (Q : Bool → Prop) : cmpR .nmem (.lst es) (.lst ds) Q = ((scaD (.lst es) = true ∧ ds.all scaD = true) ∧ Q (!memD (.lst es) ds)) := rfl
@[simp] theorem cq_memt_lst (es : List D) (ds : List D) (Q : Bool → Prop) : cmpR .mem (.lst es) (.tup ds) Q = ((scaD (.lst es) = true ∧ ds.all scaD = true) ∧ Q (memD (.lst es) ds)) := rfl
@[simp] theorem cq_nmemt_lst (es : List D) (ds : List D) (Q : Bool → Prop) : cmpR .nmem (.lst es) (.tup ds) Q = ((scaD (.lst es) = true ∧ ds.all scaD = true) ∧ Q (!memD (.lst es) ds)) := rfl
@[simp] theorem sca_non  : scaD .non = (true) := rfl
@[simp] theorem sca_bl (b : Bool) : scaD (.bl b) = (true) := rfl
@[simp] theorem sca_int (i : Int) : scaD (.int i) = (true) := rfl
@[simp] theorem sca_str (s : List Nat) : scaD (.str s) = (true) := rfl
@[simp] theorem sca_tup (ds : List D) : scaD (.tup ds) = (false) := rfl
@[simp] theorem sca_lst (ds : List D) : scaD (.lst ds) = (false) := rfl
@[simp] theorem eq_non_non  : eqD .non .non = (true) := by unfold eqD; rfl
@[simp] theorem sc_non_non  : scalD .non .non = (true) := rfl
@[simp] theorem eq_non_bl  (b : Bool) : eqD .non (.bl b) = (false) := by unfold eqD; rfl
@[simp] theorem sc_non_bl  (b : Bool) : scalD .non (.bl b) = (true) := rfl
@[simp] theorem eq_non_int  (b : Int) : eqD .non (.int b) = (false) := by unfold eqD; rfl
@[simp] theorem sc_non_int  (b : Int) : scalD .non (.int b) = (true) := rfl
@[simp] theorem eq_non_str  (b : List Nat) : eqD .non (.str b) = (false) := by unfold eqD; rfl
@[simp] theorem sc_non_str  (b : List Nat) : scalD .non (.str b) = (true) := rfl
@[simp] theorem eq_non_tup  (b : List D) : eqD .non (.tup b) = (false) := by unfold eqD; rfl
@[simp] theorem sc_non_tup  (b : List D) : scalD .non (.tup b) = (false) := rfl
@[simp] theorem eq_non_lst  (b : List D) : eqD .non (.lst b) = (false) := by unfold eqD; rfl
@[simp] theorem sc_non_lst  (b : List D) : scalD .non (.lst b) = (false) := rfl
@[simp] theorem eq_bl_non (a : Bool) : eqD (.bl a) .non = (false) := by unfold eqD; rfl
@[simp] theorem sc_bl_non (a : Bool) : scalD (.bl a) .non = (true) := rfl
@[simp] theorem eq_bl_bl (a : Bool) (b : Bool) : eqD (.bl a) (.bl b) = (a == b) := by unfold eqD; rfl
@[simp] theorem sc_bl_bl (a : Bool) (b : Bool) : scalD (.bl a) (.bl b) = (true) := rfl
@[simp] theorem eq_bl_int (a : Bool) (b : Int) : eqD (.bl a) (.int b) = ((if a then 1 else 0) == b) := by unfold eqD; rfl
@[simp] theorem sc_bl_int (a : Bool) (b : Int) : scalD (.bl a) (.int b) = (false) := rfl
@[simp] theorem eq_bl_str (a : Bool) (b : List Nat) : eqD (.bl a) (.str b) = (false) := by unfold eqD; rfl
@[simp] theorem sc_bl_str (a : Bool) (b : List Nat) : scalD (.bl a) (.str b) = (true) := rfl
@[simp] theorem eq_bl_tup (a : Bool) (b : List D) : eqD (.bl a) (.tup b) = (false) := by unfold eqD; rfl
@[simp] theorem sc_bl_tup (a : Bool) (b : List D) : scalD (.bl a) (.tup b) = (false) := rfl
@[simp] theorem eq_bl_lst (a : Bool) (b : List D) : eqD (.bl a) (.lst b) = (false) := by unfold eqD; rfl
@[simp] theorem sc_bl_lst (a : Bool) (b : List D) : scalD (.bl a) (.lst b) = (false) := rfl
@[simp] theorem eq_int_non (a : Int) : eqD (.int a) .non = (false) := by unfold eqD; rfl
@[simp] theorem sc_int_non (a : Int) : scalD (.int a) .non = (true) := rfl
@[simp] theorem eq_int_bl (a : Int) (b : Bool) : eqD (.int a) (.bl b) = (a == (if b then 1 else 0)) := by unfold eqD; rfl
@[simp] theorem sc_int_bl (a : Int) (b : Bool) : scalD (.int a) (.bl b) = (false) := rfl
@[simp] theorem eq_int_int (a : Int) (b : Int) : eqD (.int a) (.int b) = (a == b) := by unfold eqD; rfl
@[simp] theorem sc_int_int (a : Int) (b : Int) : scalD (.int a) (.int b) = (true) := rfl
@[simp] theorem eq_int_str (a : Int) (b : List Nat) : eqD (.int a) (.str b) = (false) := by unfold eqD; rfl
@[simp] theorem sc_int_str (a : Int) (b : List Nat) : scalD (.int a) (.str b) = (true) := rfl
@[simp] theorem eq_int_tup (a : Int) (b : List D) : eqD (.int a) (.tup b) = (false) := by unfold eqD; rfl
@[simp] theorem sc_int_tup (a : Int) (b : List D) : scalD (.int a) (.tup b) = (false) := rfl
@[simp] theorem eq_int_lst (a : Int) (b : List D) : eqD (.int a) (.lst b) = (false) := by unfold eqD; rfl
@[simp] theorem sc_int_lst (a : Int) (b : List D) : scalD (.int a) (.lst b) = (false) := rfl
@[simp] theorem eq_str_non (a : List Nat) : eqD (.str a) .non = (false) := by unfold eqD; rfl
@[simp] theorem sc_str_non (a : List Nat) : scalD (.str a) .non = (true) := rfl
@[simp] theorem eq_str_bl (a : List Nat) (b : Bool) : eqD (.str a) (.bl b) = (false) := by unfold eqD; rfl
@[simp] theorem sc_str_bl (a : List Nat) (b : Bool) : scalD (.str a) (.bl b) = (true) := rfl
@[simp] theorem eq_str_int (a : List Nat) (b : Int) : eqD (.str a) (.int b) = (false) := by unfold eqD; rfl
@[simp] theorem sc_str_int (a : List Nat) (b : Int) : scalD (.str a) (.int b) = (true) := rfl
@[simp] theorem eq_str_str (a : List Nat) (b : List Nat) : eqD (.str a) (.str b) = (a == b) := by unfold eqD; rfl
@[simp] theorem sc_str_str (a : List Nat) (b : List Nat) : scalD (.str a) (.str b) = (true) := rfl
@[simp] theorem eq_str_tup (a : List Nat) (b : List D) : eqD (.str a) (.tup b) = (false) := by unfold eqD; rfl
@[simp] theorem sc_str_tup (a : List Nat) (b : List D) : scalD (.str a) (.tup b) = (false) := rfl
@[simp] theorem eq_str_lst (a : List Nat) (b : List D) : eqD (.str a) (.lst b) = (false) := by unfold eqD; rfl
@[simp] theorem sc_str_lst (a : List Nat) (b : List D) : scalD (.str a) (.lst b) = (false) := rfl
@[simp] theorem eq_tup_non (a : List D) : eqD (.tup a) .non = (false) := by unfold eqD; rfl
@[simp] theorem sc_tup_non (a : List D) : scalD (.tup a) .non = (false) := rfl
@[simp] theorem eq_tup_bl (a : List D) (b : Bool) : eqD (.tup a) (.bl b) = (false) := by unfold eqD; rfl
@[simp] theorem sc_tup_bl (a : List D) (b : Bool) : scalD (.tup a) (.bl b) = (false) := rfl
@[simp] theorem eq_tup_int (a : List D) (b : Int) : eqD (.tup a) (.int b) = (false) := by unfold eqD; rfl
@[simp] theorem sc_tup_int (a : List D) (b : Int) : scalD (.tup a) (.int b) = (false) := rfl
@[simp] theorem eq_tup_str (a : List D) (b : List Nat) : eqD (.tup a) (.str b) = (false) := by unfold eqD; rfl
@[simp] theorem sc_tup_str (a : List D) (b : List Nat) : scalD (.tup a) (.str b) = (false) := rfl
@[simp] theorem eq_tup_tup (a : List D) (b : List D) : eqD (.tup a) (.tup b) = (eqL a b) := by unfold eqD; rfl
@[simp] theorem sc_tup_tup (a : List D) (b : List D) : scalD (.tup a) (.tup b) = (false) := rfl
@[simp] theorem eq_tup_lst (a : List D) (b : List D) : eqD (.tup a) (.lst b) = (false) := by unfold eqD; rfl
@[simp] theorem sc_tup_lst (a : List D) (b : List D) : scalD (.tup a) (.lst b) = (false) := rfl
@[simp] theorem eq_lst_non (a : List D) : eqD (.lst a) .non = (false) := by unfold eqD; rfl
@[simp] theorem sc_lst_non (a : List D) : scalD (.lst a) .non = (false) := rfl
@[simp] theorem eq_lst_bl (a : List D) (b : Bool) : eqD (.lst a) (.bl b) = (false) := by unfold eqD; rfl
@[simp] theorem sc_lst_bl (a : List D) (b : Bool) : scalD (.lst a) (.bl b) = (false) := rfl
@[simp] theorem eq_lst_int (a : List D) (b : Int) : eqD (.lst a) (.int b) = (false) := by unfold eqD; rfl
@[simp] theorem sc_lst_int (a : List D) (b : Int) : scalD (.lst a) (.int b) = (false) := rfl
@[simp] theorem eq_lst_str (a : List D) (b : List Nat) : eqD (.lst a) (.str b) = (false) := by unfold eqD; rfl
@[simp] theorem sc_lst_str (a : List D) (b : List Nat) : scalD (.lst a) (.str b) = (false) := rfl
@[simp] theorem eq_lst_tup (a : List D) (b : List D) : eqD (.lst a) (.tup b) = (false) := by unfold eqD; rfl
@[simp] theorem sc_lst_tup (a : List D) (b : List D) : scalD (.lst a) (.tup b) = (false) := rfl
@[simp] theorem eq_lst_lst (a : List D) (b : List D) : eqD (.lst a) (.lst b) = (eqL a b) := by unfold eqD; rfl
@[simp] theorem sc_lst_lst (a : List D) (b : List D) : scalD (.lst a) (.lst b) = (false) := rfl
@[simp] theorem eL_nn  : eqL [] [] = (true) := rfl
@[simp] theorem eL_cc (a b : D) (s t : List D) : eqL (a :: s) (b :: t) = (eqD a b && eqL s t) := rfl
@[simp] theorem eL_nc (b : D) (t : List D) : eqL [] (b :: t) = (false) := rfl
@[simp] theorem eL_cn (b : D) (t : List D) : eqL (b :: t) [] = (false) := rfl
@[simp] theorem ty_non_int  : isTy .non .int = (false) := rfl
@[simp] theorem ty_bl_int (a : Bool) : isTy (.bl a) .int = (true) := rfl
@[simp] theorem ty_int_int (a : Int) : isTy (.int a) .int = (true) := rfl
@[simp] theorem ty_str_int (a : List Nat) : isTy (.str a) .int = (false) := rfl
@[simp] theorem ty_tup_int (a : List D) : isTy (.tup a) .int = (false) := rfl
@[simp] theorem ty_lst_int (a : List D) : isTy (.lst a) .int = (false) := rfl
@[simp] theorem ty_non_bool  : isTy .non .bool = (false) := rfl
@[simp] theorem ty_bl_bool (a : Bool) : isTy (.bl a) .bool = (true) := rfl
@[simp] theorem ty_int_bool (a : Int) : isTy (.int a) .bool = (false) := rfl
@[simp] theorem ty_str_bool (a : List Nat) : isTy (.str a) .bool = (false) := rfl
@[simp] theorem ty_tup_bool (a : List D) : isTy (.tup a) .bool = (false) := rfl
@[simp] theorem ty_lst_bool (a : List D) : isTy (.lst a) .bool = (false) := rfl
@[simp] theorem ty_non_str  : isTy .non .str = (false) := rfl
@[simp] theorem ty_bl_str (a : Bool) : isTy (.bl a) .str = (false) := rfl
@[simp] theorem ty_int_str (a : Int) : isTy (.int a) .str = (false) := rfl
@[simp] theorem ty_str_str (a : List Nat) : isTy (.str a) .str = (true) := rfl
@[simp] theorem ty_tup_str (a : List D) : isTy (.tup a) .str = (false) := rfl
@[simp] theorem ty_lst_str (a : List D) : isTy (.lst a) .str = (false) := rfl
@[simp] theorem ty_non_tuple  : isTy .non .tuple = (false) := rfl
@[simp] theorem ty_bl_tuple (a : Bool) : isTy (.bl a) .tuple = (false) := rfl
@[simp] theorem ty_int_tuple (a : Int) : isTy (.int a) .tuple = (false) := rfl
@[simp] theorem ty_str_tuple (a : List Nat) : isTy (.str a) .tuple = (false) := rfl
@[simp] theorem ty_tup_tuple (a : List D) : isTy (.tup a) .tuple = (true) := rfl
@[simp] theorem ty_lst_tuple (a : List D) : isTy (.lst a) .tuple = (false) := rfl
@[simp] theorem ty_non_list  : isTy .non .list = (false) := rfl
@[simp] theorem ty_bl_list (a : Bool) : isTy (.bl a) .list = (false) := rfl
@[simp] theorem ty_int_list (a : Int) : isTy (.int a) .list = (false) := rfl
@[simp] theorem ty_str_list (a : List Nat) : isTy (.str a) .list = (false) := rfl
@[simp] theorem ty_tup_list (a : List D) : isTy (.tup a) .list = (false) := rfl
@[simp] theorem ty_lst_list (a : List D) : isTy (.lst a) .list = (true) := rfl
@[simp] theorem op_addi (i j : Int) (Q : D → Prop) : opR .add (.int i) (.int j) Q = (Q (.int (i + j))) := rfl
@[simp] theorem op_subi (i j : Int) (Q : D → Prop) : opR .sub (.int i) (.int j) Q = (Q (.int (i - j))) := rfl
@[simp] theorem op_muli (i j : Int) (Q : D → Prop) : opR .mul (.int i) (.int j) Q = (((-(2 ^ 64) < i ∧ i < 2 ^ 64) ∨ (-(2 ^ 64) < j ∧ j < 2 ^ 64)) ∧ Q (.int (i * j))) := rfl
@[simp] theorem op_muls (s : List Nat) (j : Int) (Q : D → Prop) : opR .mul (.str s) (.int j) Q = ((0 ≤ j ∧ j ≤ line ∧ s.length * j.toNat ≤ line) ∧ Q (.str (List.replicate j.toNat s).flatten)) := rfl
@[simp] theorem op_mull (s : List D) (j : Int) (Q : D → Prop) : opR .mul (.lst s) (.int j) Q = ((0 ≤ j ∧ j ≤ line ∧ s.length * j.toNat ≤ line) ∧ Q (.lst (List.replicate j.toNat s).flatten)) := rfl
@[simp] theorem op_fdivi (i j : Int) (Q : D → Prop) : opR .fdiv (.int i) (.int j) Q = ((0 < j ∧ j < 1073741824) ∧ Q (.int (i / j))) := rfl
@[simp] theorem op_modi (i j : Int) (Q : D → Prop) : opR .mod (.int i) (.int j) Q = (0 < j ∧ Q (.int (i % j))) := rfl
@[simp] theorem op_powi (i j : Int) (Q : D → Prop) : opR .pow (.int i) (.int j) Q = ((0 ≤ j ∧ j ≤ 1000000 ∧ i.natAbs < 2 ^ 64) ∧ Q (.int (i ^ j.toNat))) := rfl
@[simp] theorem op_shli (i j : Int) (Q : D → Prop) : opR .shl (.int i) (.int j) Q = ((0 ≤ j ∧ j ≤ 1000000 ∧ i.natAbs < 2 ^ 64) ∧ Q (.int (i * 2 ^ j.toNat))) := rfl
@[simp] theorem op_shri (i j : Int) (Q : D → Prop) : opR .shr (.int i) (.int j) Q = (0 ≤ j ∧ Q (.int (i / 2 ^ j.toNat))) := rfl
@[simp] theorem op_addss (s t : List Nat) (Q : D → Prop) : opR .add (.str s) (.str t) Q = (s.length + t.length ≤ line ∧ Q (.str (s ++ t))) := rfl
@[simp] theorem op_addl (s t : List D) (Q : D → Prop) : opR .add (.lst s) (.lst t) Q = (s.length + t.length ≤ line ∧ Q (.lst (s ++ t))) := rfl
@[simp] theorem op_addt (s t : List D) (Q : D → Prop) : opR .add (.tup s) (.tup t) Q = ((s ≠ [] ∧ s.length + t.length ≤ line) ∧ Q (.tup (s ++ t))) := rfl
@[simp] theorem ix_l (ds : List D) (i : Int) (Q : D → Prop) : ixR (.lst ds) (.int i) Q = (∃ d, L2.atI ds i = some d ∧ Q d) := rfl
@[simp] theorem ix_t (ds : List D) (i : Int) (Q : D → Prop) : ixR (.tup ds) (.int i) Q = (∃ d, L2.atI ds i = some d ∧ Q d) := rfl
@[simp] theorem ix_s (s : List Nat) (i : Int) (Q : D → Prop) : ixR (.str s) (.int i) Q = (∃ c, L2.atI s i = some c ∧ s.length ≤ line ∧ Q (.str [c])) := rfl
@[simp] theorem at_0 {α : Type} (a : α) (r : List α) : L2.atI (a :: r) 0 = some a := by
  unfold L2.atI L2.ixN
  rw [if_pos (by decide), if_pos (by first | (simp; done) | (simp; omega))]
  rfl
@[simp] theorem at_1 {α : Type} (a0 a1 : α) (r : List α) : L2.atI (a0 :: a1 :: r) 1 = some a1 := by
  unfold L2.atI L2.ixN
  rw [if_pos (by decide), if_pos (by first | (simp; done) | (simp; omega))]
  rfl
@[simp] theorem at_2 {α : Type} (a0 a1 a2 : α) (r : List α) : L2.atI (a0 :: a1 :: a2 :: r) 2 = some a2 := by
  unfold L2.atI L2.ixN
  rw [if_pos (by decide), if_pos (by first | (simp; done) | (simp; omega))]
  rfl
@[simp] theorem at_3 {α : Type} (a0 a1 a2 a3 : α) (r : List α) : L2.atI (a0 :: a1 :: a2 :: a3 :: r) 3 = some a3 := by
  unfold L2.atI L2.ixN
  rw [if_pos (by decide), if_pos (by first | (simp; done) | (simp; omega))]
  rfl
@[simp] theorem at_4 {α : Type} (a0 a1 a2 a3 a4 : α) (r : List α) : L2.atI (a0 :: a1 :: a2 :: a3 :: a4 :: r) 4 = some a4 := by
  unfold L2.atI L2.ixN
  rw [if_pos (by decide), if_pos (by first | (simp; done) | (simp; omega))]
  rfl
@[simp] theorem bi_lens (m : Mu) (s : List Nat) (Q : D → Prop) : biR .len m [.str s] Q = (s.length ≤ line ∧ Q (.int s.length)) := rfl
@[simp] theorem bi_lenl (m : Mu) (ds : List D) (Q : D → Prop) : biR .len m [.lst ds] Q = (Q (.int ds.length)) := rfl
@[simp] theorem bi_lent (m : Mu) (ds : List D) (Q : D → Prop) : biR .len m [.tup ds] Q = (Q (.int ds.length)) := rfl
theorem bi_lenr {m : Mu} {a : Nat} {ds : List D} (h : m a = some (.lst ds)) (Q : D → Prop) : biR .len m [.ref a] Q = Q (.int ds.length) := by
  show (match rd m (.ref a) with
    | .lst ds => Q (.int ds.length)
    | .tup ds => Q (.int ds.length)
    | .dct ks => Q (.int ks.length)
    | _ => False) = _
  simp [rd, h]
@[simp] theorem bi_abs (m : Mu) (i : Int) (Q : D → Prop) : biR .abs m [.int i] Q = (Q (.int (if i < 0 then -i else i))) := rfl
@[simp] theorem bi_max2 (m : Mu) (i j : Int) (Q : D → Prop) : biR .max m [.int i, .int j] Q = (Q (.int (if j > i then j else i))) := rfl
@[simp] theorem bi_min2 (m : Mu) (i j : Int) (Q : D → Prop) : biR .min m [.int i, .int j] Q = (Q (.int (if j < i then j else i))) := rfl
@[simp] theorem bi_max2s (m : Mu) (a b : List Nat) (Q : D → Prop) : biR .max m [.str a, .str b] Q = (Q (.str (if sltB a b then b else a))) := rfl
@[simp] theorem bi_min2s (m : Mu) (a b : List Nat) (Q : D → Prop) : biR .min m [.str a, .str b] Q = (Q (.str (if sltB b a then b else a))) := rfl
@[simp] theorem bi_sum (m : Mu) (ds : List D) (Q : D → Prop) : biR .sum m [.lst ds] Q = (∃ is, intsD ds = some is ∧ Q (.int is.sum)) := rfl
@[simp] theorem bi_all (m : Mu) (ds : List D) (Q : D → Prop) : biR .all m [.lst ds] Q = (∃ bs, blsD ds = some bs ∧ Q (.bl (bs.all id))) := rfl
@[simp] theorem bi_any (m : Mu) (ds : List D) (Q : D → Prop) : biR .any m [.lst ds] Q = (∃ bs, blsD ds = some bs ∧ Q (.bl (bs.any id))) := rfl
@[simp] theorem bi_listl (m : Mu) (ds : List D) (Q : D → Prop) : biR .list m [.lst ds] Q = (Q (.lst ds)) := rfl
@[simp] theorem bi_listt (m : Mu) (ds : List D) (Q : D → Prop) : biR .list m [.tup ds] Q = (Q (.lst ds)) := rfl
@[simp] theorem bi_tupl (m : Mu) (ds : List D) (Q : D → Prop) : biR .tuple m [.lst ds] Q = (Q (.tup ds)) := rfl
@[simp] theorem bi_tupt (m : Mu) (ds : List D) (Q : D → Prop) : biR .tuple m [.tup ds] Q = (Q (.tup ds)) := rfl
theorem bi_maxl (m : Mu) (ds : List D) (Q : D → Prop) : biR .max m [.lst ds] Q = ((∃ is, intsD ds = some is ∧ is ≠ [] ∧ ∀ k ∈ is, (∀ j ∈ is, j ≤ k) → Q (.int k)) ∨ (∃ s ss, strsD ds = some (s :: ss) ∧ Q (.str (maxS s ss)))) := rfl
theorem bi_minl (m : Mu) (ds : List D) (Q : D → Prop) : biR .min m [.lst ds] Q = ((∃ is, intsD ds = some is ∧ is ≠ [] ∧ ∀ k ∈ is, (∀ j ∈ is, k ≤ j) → Q (.int k)) ∨ (∃ s ss, strsD ds = some (s :: ss) ∧ Q (.str (minS s ss)))) := rfl
@[simp] theorem bi_ord (m : Mu) (c : Nat) (Q : D → Prop) : biR .ord m [.str [c]] Q = (Q (.int c)) := rfl
end Pk

/-! Plain work with our language: the steps of a run. -/
namespace Pk
section
variable {T : Tb} {gv : Nat → D} {k f : Nat} {m : Mu} {Q : Pq} {X : Px}
theorem run_df {np nn : Nat} {b : Ss} {vs : List D} (h : T f = some (.df np nn b)) (hl : vs.length = np) (hw : wpSs (run T gv k) gv true b (startE nn vs) m ⟨fun _ m => Q .non m, Q, fun x _ m => X x m⟩) : run T gv (k + 1) true f vs m Q X := by
  unfold run
  rw [h]
  exact ⟨hl, hw⟩
theorem run_draw {a : Nat} {n : Int} (h : T f = some .draw) (h1 : 1 ≤ n) (h2 : n ≤ 10 ^ 70) (hq : ∀ r, 0 ≤ r → r < n → Q (.int r) m) : run T gv (k + 1) true f [.st a, .int n] m Q X := by
  unfold run
  rw [h]
  exact ⟨rfl, a, n, rfl, h1, h2, hq⟩
theorem run_start {ns : List Int} (h : T f = some .start) (h1 : ns.length ≤ 63) (h2 : ∀ n ∈ ns, PySem.Builtin.Int.intBits n ≤ 1048576) (hq : ∀ a, Q (.st a) m) : run T gv (k + 1) true f [.scr ns] m Q X := by
  unfold run
  rw [h]
  exact ⟨rfl, ns, rfl, h1, h2, hq⟩
end
/-! ### comprehensions, loops -/
theorem gd_nilS (m : Mu) : Gd [] m := fun _ h => by cases h
theorem compL_map {gs : List (Nat × List D)} {p : Pt} {body : Env → Mu → (Option D → Mu → Prop) → Prop} {σ : Env} {m : Mu} (f : D → D) (hg : Gd gs m) : ∀ (ds acc : List D) (Q : List D → Mu → Prop),
    (∀ d ∈ ds, ∃ σ', bindP p d σ = some σ' ∧ ∀ R : Option D → Mu → Prop, R (some (f d)) m → body σ' m R) → Q (acc ++ ds.map f) m → compL gs p body σ ds m acc Q
  | [], acc, Q, _, hq => ⟨hg, by simpa using hq⟩
  | d :: ds, acc, Q, h, hq => by
    obtain ⟨σ', h1, h2⟩ := h d (List.mem_cons_self ..)
    refine ⟨hg, σ', h1, h2 _ ?_⟩
    exact compL_map f hg ds (acc ++ [f d]) Q (fun d hd => h d (List.mem_cons_of_mem _ hd)) (by simpa using hq)
theorem compL_filter {gs : List (Nat × List D)} {p : Pt} {body : Env → Mu → (Option D → Mu → Prop) → Prop} {σ : Env} {m : Mu} (f : D → Option D) (hg : Gd gs m) : ∀ (ds acc : List D) (Q : List D → Mu → Prop),
    (∀ d ∈ ds, ∃ σ', bindP p d σ = some σ' ∧ ∀ R : Option D → Mu → Prop, R (f d) m → body σ' m R) → Q (acc ++ ds.filterMap f) m → compL gs p body σ ds m acc Q
  | [], acc, Q, _, hq => ⟨hg, by simpa using hq⟩
  | d :: ds, acc, Q, h, hq => by
    obtain ⟨σ', h1, h2⟩ := h d (List.mem_cons_self ..)
    refine ⟨hg, σ', h1, h2 _ ?_⟩
    cases e : f d with
    | none =>
      refine compL_filter f hg ds acc Q (fun d hd => h d (List.mem_cons_of_mem _ hd)) ?_
      rw [List.filterMap_cons, e] at hq
      exact hq
    | some v =>
      refine compL_filter f hg ds (acc ++ [v]) Q (fun d hd => h d (List.mem_cons_of_mem _ hd)) ?_
      rw [List.filterMap_cons, e] at hq
      simpa using hq
theorem compL_ind {gs : List (Nat × List D)} {p : Pt} {body : Env → Mu → (Option D → Mu → Prop) → Prop} {σ : Env} {m : Mu} (I : Nat → List D → Prop) (hg : Gd gs m) : ∀ (ds : List D) (i : Nat) (acc : List D) (Q : List D → Mu → Prop),
    I i acc → (∀ j d acc, ds[j]? = some d → I (i + j) acc → ∃ σ', bindP p d σ = some σ' ∧ ∀ R : Option D → Mu → Prop, (∀ r : Option D, I (i + j + 1) (match r with
      | some v => acc ++ [v]
      | none => acc) → R r m) → body σ' m R) → (∀ acc, I (i + ds.length) acc → Q acc m) → compL gs p body σ ds m acc Q
  | [], i, acc, Q, h0, _, hq => ⟨hg, hq acc h0⟩
  | d :: ds, i, acc, Q, h0, h, hq => by
    obtain ⟨σ', h1, h2⟩ := h 0 d acc rfl h0
    refine ⟨hg, σ', h1, h2 _ fun r hr => ?_⟩
    refine compL_ind I hg ds (i + 1) _ Q hr (fun j e acc hj hi => ?_) fun acc hi => hq acc ?_
    · have hi' : I (i + (j + 1)) acc := by rw [show i + (j + 1) = i + 1 + j by omega]; exact hi
      obtain ⟨σ2, g1, g2⟩ := h (j + 1) e acc (by simpa using hj) hi'
      refine ⟨σ2, g1, fun R hR => g2 R fun r hr => hR r ?_⟩
      rw [show i + 1 + j + 1 = i + (j + 1) + 1 by omega]
      exact hr
    · rw [show i + (d :: ds).length = i + 1 + ds.length by simp; omega]
      exact hi
theorem forL_ind {gs : List (Nat × List D)} {p : Pt} {body : Env → Mu → Kt → Prop} {K : Kt} (I : Nat → Env → Mu → Prop) (hg : ∀ i σ m, I i σ m → Gd gs m) : ∀ (ds : List D) (i : Nat) (σ : Env) (m : Mu),
    I i σ m → (∀ j d σ m, ds[j]? = some d → I (i + j) σ m → ∃ σ', bindP p d σ = some σ' ∧ ∀ nx : Env → Mu → Prop, (∀ σ2 m2, I (i + j + 1) σ2 m2 → nx σ2 m2) → body σ' m ⟨nx, K.rt, K.xx⟩) → (∀ σ m, I (i + ds.length) σ m → K.nx σ m) → forL gs p body ds σ m K
  | [], i, σ, m, h0, _, hq => ⟨hg _ _ _ h0, hq σ m h0⟩
  | d :: ds, i, σ, m, h0, h, hq => by
    obtain ⟨σ', h1, h2⟩ := h 0 d σ m rfl h0
    refine ⟨hg _ _ _ h0, σ', h1, h2 _ fun σ2 m2 hr => ?_⟩
    refine forL_ind I hg ds (i + 1) σ2 m2 hr (fun j e σ3 m3 hj hi => ?_) fun σ3 m3 hi => hq σ3 m3 ?_
    · have hi' : I (i + (j + 1)) σ3 m3 := by rw [show i + (j + 1) = i + 1 + j by omega]; exact hi
      obtain ⟨σ4, g1, g2⟩ := h (j + 1) e σ3 m3 (by simpa using hj) hi'
      refine ⟨σ4, g1, fun nx hnx => g2 nx fun σ5 m5 hr => hnx σ5 m5 ?_⟩
      rw [show i + 1 + j + 1 = i + (j + 1) + 1 by omega]
      exact hr
    · rw [show i + (d :: ds).length = i + 1 + ds.length by simp; omega]
      exact hi
/-! ### boxes -/
theorem mup_at (m : Mu) (a : Nat) (o : Option Ob) : mup m a o a = o := by
  unfold mup
  rw [if_pos rfl]
theorem mup_mup (m : Mu) (a : Nat) (o u : Option Ob) : mup (mup m a o) a u = mup m a u := by
  funext b
  unfold mup
  split <;> rfl
theorem mup_back {m : Mu} {a : Nat} (h : m a = none) (o : Option Ob) : mup (mup m a o) a none = m := by
  funext b
  unfold mup
  split
  · rename_i e
    rw [e, h]
  · rfl
/-! ### subscripts -/
theorem atI_pos {α : Type} {s : List α} {r : Int} (h0 : 0 ≤ r) (h1 : r < s.length) : ∃ x, L2.atI s r = some x ∧ x ∈ s ∧ s[r.toNat]? = some x := by
  have h2 : r.toNat < s.length := by omega
  refine ⟨s[r.toNat], ?_, List.getElem_mem h2, List.getElem?_eq_getElem h2⟩
  unfold L2.atI L2.ixN
  rw [if_pos h0, if_pos h1]
  exact List.getElem?_eq_getElem h2
theorem atI_last {α : Type} {s : List α} (h : s ≠ []) : ∃ x, L2.atI s (-1) = some x ∧ x ∈ s ∧ s.getLast h = x := by
  have h2 : s.length - 1 < s.length := by
    have := List.length_pos_iff.mpr h
    omega
  refine ⟨s[s.length - 1], ?_, List.getElem_mem h2, List.getLast_eq_getElem h⟩
  have := List.length_pos_iff.mpr h
  unfold L2.atI L2.ixN
  rw [if_neg (by decide), if_pos (by omega)]
  have e : (-1 + (s.length : Int)).toNat = s.length - 1 := by omega
  show s[(-1 + (s.length : Int)).toNat]? = _
  rw [e]
  exact List.getElem?_eq_getElem h2
/-! ### the law's keys -/
def b1003 : Ss := (.cons (.ite (.cmp .eq (.call 1001 (.cons (.var 0) (.cons (.int 4) .nil))) (.int 1)) (.cons (.ret (.sm .join (.str []) (.comp [1] (.ix (.str [97, 98, 99, 100, 101, 102, 103, 104, 105, 106, 107, 108, 109, 110, 111, 112,
  113, 114, 115, 116, 117, 118, 119, 120, 121, 122]) (.call 1001 (.cons (.var 0) (.cons (.int 26) .nil)))) (.nm 1) (.rng (.op2 .add (.int 1) (.call 1001 (.cons (.var 0) (.cons (.int 8) .nil))))) .none))) .nil) .nil)
  (.cons (.ret (.sm .join (.str []) (.comp [1] (.ix (.str [97, 98, 99]) (.call 1001 (.cons (.var 0) (.cons (.int 3) .nil)))) (.nm 1) (.rng (.op2 .add (.int 1) (.call 1001 (.cons (.var 0) (.cons (.int 2) .nil))))) .none)))
  .nil))
def isKey (s : List Nat) : Prop := 1 ≤ s.length ∧ s.length ≤ 8 ∧ ∀ c ∈ s, 97 ≤ c ∧ c ≤ 122
theorem strs_one : ∀ cs : List Nat, strsD (cs.map fun c => D.str [c]) = some (cs.map fun c => [c])
  | [] => rfl
  | c :: cs => by
    rw [List.map_cons]
    unfold strsD
    rw [strs_one cs]
    rfl
theorem join_one : ∀ cs : List Nat, joinS [] (cs.map fun c => [c]) = cs
  | [] => rfl
  | [c] => rfl
  | c :: d :: cs => by
    have := join_one (d :: cs)
    rw [List.map_cons, List.map_cons] at *
    unfold joinS
    rw [this]
    rfl
theorem joinLen_one : ∀ cs : List Nat, joinLen 0 (cs.map fun c => [c]) = cs.length
  | [] => rfl
  | c :: cs => by
    rw [List.map_cons]
    unfold joinLen
    rw [joinLen_one cs]
    simp
    omega
section
variable {T : Tb} {gv : Nat → D} {k : Nat} {m : Mu} {Q : Pq} {X : Px}
/-- a text of n drawn letters -/
theorem letters {ab : List Nat} {w n : Int} {a : Nat} {Q' : Pq} {σ : Env} (hD : T 1001 = some .draw) (h1 : 1 ≤ w) (hw : w = ab.length) (hab : ∀ c ∈ ab, 97 ≤ c ∧ c ≤ 122) (hl : ab.length ≤ 100) (hn : 1 ≤ n) (hn8 : n ≤ 8) (hσ : σ = [.st a, .un]) (hq : ∀ s, isKey s → Q' (.str s) m) :
    compL [] (.nm 1) (fun σ2 m2 R => ∃ d, σ2[0]? = some d ∧ isUn d = false ∧ run T gv (k + 1) true 1001 [d, .int w] m2 (fun y m2 => ixR (.str ab) y fun d => R (some d) m2) X) σ
      ((List.range n.toNat).map fun i => D.int (i : Nat)) m [] (fun acc m2 => smR .join m2 (.str []) [.lst acc] fun d => Q' d m2) := by
  subst hσ
  refine compL_ind (fun i acc => ∃ cs : List Nat, acc = cs.map (fun c => D.str [c]) ∧ cs.length = i ∧ ∀ c ∈ cs, 97 ≤ c ∧ c ≤ 122) (gd_nilS m) _ 0 [] _ ⟨[], rfl, rfl, fun _ h => by cases h⟩ ?_ ?_
  · rintro j d acc hj ⟨cs, rfl, hcl, hcs⟩
    refine ⟨_, rfl, fun R hR => ⟨_, rfl, rfl, ?_⟩⟩
    refine run_draw hD h1 (by rw [hw]; exact Int.le_trans (show (ab.length : Int) ≤ 100 by omega) (by decide +kernel)) fun r r0 r1 => ?_
    obtain ⟨x, e1, e2, _⟩ := atI_pos (s := ab) r0 (by omega)
    refine ⟨x, e1, by show ab.length ≤ 16777216; omega, hR _ ⟨cs ++ [x], by simp, by simp; omega, fun c hc => ?_⟩⟩
    rcases List.mem_append.mp hc with hc | hc
    · exact hcs c hc
    · have : c = x := by simpa using hc
      subst this
      exact hab c e2
  · rintro acc ⟨cs, rfl, hcl, hcs⟩
    have hcl : cs.length = n.toNat := by simpa using hcl
    show ∃ ss, strsD _ = some ss ∧ _
    refine ⟨_, strs_one cs, ?_, ?_⟩
    · show joinLen 0 _ ≤ 16777216
      rw [joinLen_one]
      omega
    · have e : joinS [] (cs.map fun c => [c]) = cs := join_one cs
      rw [e]
      exact hq cs ⟨by omega, by omega, hcs⟩
theorem sp_key (h3 : T 1003 = some (.df 1 2 b1003)) (hD : T 1001 = some .draw) {a : Nat} (hq : ∀ s, isKey s → Q (.str s) m) : run T gv (k + 2) true 1003 [.st a] m Q X := by
  refine run_df h3 rfl ?_
  simp [b1003, wpSs, wpS, wpE, wpT, wpEs, wpEo, wpTo, wpIt, wpFs, wpHs, madeR, fmtD, setAll, seqD, bindP, bindPs, wipeE, startE, -Bool.exists_bool, -Bool.forall_bool]
  refine run_draw hD (by decide) (by decide +kernel) fun r r0 r1 => ?_
  simp
  split
  · refine run_draw hD (by decide) (by decide +kernel) fun r r0 r1 => ?_
    refine ⟨?_, ?_, ?_⟩
    · show 1 + r ≤ ((16777216 : Nat) : Int)
      omega
    · omega
    · exact letters (ab := [97, 98, 99, 100, 101, 102, 103, 104, 105, 106, 107, 108, 109, 110, 111, 112, 113, 114, 115, 116, 117, 118, 119, 120, 121, 122]) hD (by decide) rfl (by decide) (by decide) (by omega) (by omega) rfl hq
  · refine run_draw hD (by decide) (by decide +kernel) fun r r0 r1 => ?_
    refine ⟨?_, ?_, ?_⟩
    · show 1 + r ≤ ((16777216 : Nat) : Int)
      omega
    · omega
    · exact letters (ab := [97, 98, 99]) hD (by decide) rfl (by decide) (by decide) (by omega) (by omega) rfl hq
/-! ### the law's comparison -/
def b1005 : Ss := (.cons (.ite (.isi (.var 1) [.tuple, .list]) (.cons (.ite (.or (.cmp .ne (.isi (.var 0) [.tuple]) (.isi (.var 1) [.tuple])) (.cmp .ne (.isi (.var 0) [.list]) (.isi (.var 1) [.list]))) (.cons (.ret (.bl false)) .nil) .nil)
  (.cons (.ret (.and (.cmp .eq (.bi .len (.cons (.var 0) .nil)) (.bi .len (.cons (.var 1) .nil))) (.bi .all (.cons (.comp [2, 3] (.call 1005 (.cons (.var 2) (.cons (.var 3) .nil))) (.tp (.cons (.nm 2) (.cons (.nm 3)
  .nil))) (.zip (.var 0) (.var 1)) .none) .nil)))) .nil)) .nil) (.cons (.ite (.cmp .is (.var 1) (.non)) (.cons (.ret (.cmp .is (.var 0) (.non))) .nil) .nil) (.cons (.ite (.isi (.var 1) [.str]) (.cons (.ret (.and (.isi
  (.var 0) [.str]) (.cmp .eq (.var 0) (.var 1)))) .nil) .nil) (.cons (.ret (.and (.isi (.var 0) [.int]) (.and (.cmp .eq (.isi (.var 0) [.bool]) (.isi (.var 1) [.bool])) (.cmp .eq (.var 0) (.var 1))))) .nil))))
mutual
/-- plain data, n levels deep -/
def plD : Nat → D → Bool
  | _, .non => true
  | _, .bl _ => true
  | _, .int _ => true
  | _, .str _ => true
  | n + 1, .tup ds => plL n ds
  | n + 1, .lst ds => plL n ds
  | _, _ => false
def plL : Nat → List D → Bool
  | _, [] => true
  | n, d :: ds => plD n d && plL n ds
end
theorem plL_mem : ∀ {n : Nat} {ds : List D} {d : D}, plL n ds = true → d ∈ ds → plD n d = true
  | n, e :: ds, d, h, hd => by
    unfold plL at h
    obtain ⟨h1, h2⟩ := Bool.and_eq_true_iff.mp h
    rcases List.mem_cons.mp hd with e | e
    · subst e
      exact h1
    · exact plL_mem h2 e
theorem bls_true : ∀ n : Nat, blsD (List.replicate n (.bl true)) = some (List.replicate n true)
  | 0 => rfl
  | n + 1 => by
    rw [List.replicate_succ]
    unfold blsD
    rw [bls_true n]
    rfl
theorem zip_self : ∀ ds : List D, List.zipWith (fun x y => D.tup [x, y]) ds ds = ds.map fun d => .tup [d, d]
  | [] => rfl
  | d :: ds => by
    rw [List.zipWith_cons_cons, zip_self ds]
    rfl
theorem sp_same_refl (h : T 1005 = some (.df 2 4 b1005)) : ∀ (n k : Nat) {d : D} {m : Mu} {Q : Pq} {X : Px}, plD n d = true → Q (.bl true) m → run T gv (k + n + 1) true 1005 [d, d] m Q X
  | n, k, .non, m, Q, X, hp, hq => by
    refine run_df h rfl ?_
    simp [b1005, wpSs, wpS, wpE, wpT, wpEs, wpEo, wpTo, wpIt, wpFs, wpHs, madeR, fmtD, setAll, seqD, bindP, bindPs, wipeE, startE, -Bool.exists_bool, -Bool.forall_bool, rd_nonS]
    exact hq
  | n, k, .bl b, m, Q, X, hp, hq => by
    refine run_df h rfl ?_
    simp [b1005, wpSs, wpS, wpE, wpT, wpEs, wpEo, wpTo, wpIt, wpFs, wpHs, madeR, fmtD, setAll, seqD, bindP, bindPs, wipeE, startE, -Bool.exists_bool, -Bool.forall_bool, rd_nonS]
    exact hq
  | n, k, .int b, m, Q, X, hp, hq => by
    refine run_df h rfl ?_
    simp [b1005, wpSs, wpS, wpE, wpT, wpEs, wpEo, wpTo, wpIt, wpFs, wpHs, madeR, fmtD, setAll, seqD, bindP, bindPs, wipeE, startE, -Bool.exists_bool, -Bool.forall_bool, rd_nonS]
    exact hq
  | n, k, .str b, m, Q, X, hp, hq => by
    refine run_df h rfl ?_
    simp [b1005, wpSs, wpS, wpE, wpT, wpEs, wpEo, wpTo, wpIt, wpFs, wpHs, madeR, fmtD, setAll, seqD, bindP, bindPs, wipeE, startE, -Bool.exists_bool, -Bool.forall_bool, rd_nonS]
    exact hq
  | n + 1, k, .tup ds, m, Q, X, hp, hq => by
    refine run_df h rfl ?_
    simp [b1005, wpSs, wpS, wpE, wpT, wpEs, wpEo, wpTo, wpIt, wpFs, wpHs, madeR, fmtD, setAll, seqD, bindP, bindPs, wipeE, startE, -Bool.exists_bool, -Bool.forall_bool, rd_nonS, zip_self]
    refine compL_map (fun _ => .bl true) (gd_nilS m) _ _ _ (fun d hd => ?_) ?_
    · obtain ⟨e, he, rfl⟩ := List.mem_map.mp hd
      refine ⟨_, rfl, fun R hR => ?_⟩
      have hpe : plD n e = true := plL_mem (show plL n ds = true from hp) he
      have hu : isUn e = false := by cases e <;> first | rfl | (cases n <;> cases hpe)
      exact ⟨_, rfl, hu, _, rfl, hu, sp_same_refl h n k hpe hR⟩
    · simp
      refine ⟨_, (congrArg blsD (List.map_const' ..)).trans (bls_true _), ?_⟩
      simpa using hq
  | n + 1, k, .lst ds, m, Q, X, hp, hq => by
    refine run_df h rfl ?_
    simp [b1005, wpSs, wpS, wpE, wpT, wpEs, wpEo, wpTo, wpIt, wpFs, wpHs, madeR, fmtD, setAll, seqD, bindP, bindPs, wipeE, startE, -Bool.exists_bool, -Bool.forall_bool, rd_nonS, zip_self]
    refine compL_map (fun _ => .bl true) (gd_nilS m) _ _ _ (fun d hd => ?_) ?_
    · obtain ⟨e, he, rfl⟩ := List.mem_map.mp hd
      refine ⟨_, rfl, fun R hR => ?_⟩
      have hpe : plD n e = true := plL_mem (show plL n ds = true from hp) he
      have hu : isUn e = false := by cases e <;> first | rfl | (cases n <;> cases hpe)
      exact ⟨_, rfl, hu, _, rfl, hu, sp_same_refl h n k hpe hR⟩
    · simp
      refine ⟨_, (congrArg blsD (List.map_const' ..)).trans (bls_true _), ?_⟩
      simpa using hq
  | 0, k, .tup ds, m, Q, X, hp, hq => by cases hp
  | 0, k, .lst ds, m, Q, X, hp, hq => by cases hp
  | n, k, .un, m, Q, X, hp, hq => by cases n <;> cases hp
  | n, k, .dct _, m, Q, X, hp, hq => by cases n <;> cases hp
  | n, k, .obj _ _, m, Q, X, hp, hq => by cases n <;> cases hp
  | n, k, .ref _, m, Q, X, hp, hq => by cases n <;> cases hp
  | n, k, .st _, m, Q, X, hp, hq => by cases n <;> cases hp
  | n, k, .fn _, m, Q, X, hp, hq => by cases n <;> cases hp
  | n, k, .scr _, m, Q, X, hp, hq => by cases n <;> cases hp
end
end Pk

/-! Texts in order; bounds, intervals. -/
namespace Pk
theorem slt_irr : ∀ a : List Nat, sltB a a = false
  | [] => rfl
  | a :: s => by
    unfold sltB
    simp [slt_irr s]
theorem slt_trans : ∀ {a b c : List Nat}, sltB a b = true → sltB b c = true → sltB a c = true
  | [], [], _, h, _ => by cases h
  | [], _ :: _, [], _, h => by cases h
  | [], _ :: _, _ :: _, _, _ => rfl
  | _ :: _, [], _, h, _ => by cases h
  | _ :: _, _ :: _, [], _, h => by cases h
  | a :: s, b :: t, c :: u, h1, h2 => by
    unfold sltB at *
    simp only [Bool.or_eq_true, Bool.and_eq_true, decide_eq_true_eq] at *
    rcases h1 with h1 | ⟨h1, h3⟩
    · rcases h2 with h2 | ⟨h2, h4⟩
      · exact .inl (by omega)
      · exact .inl (by omega)
    · rcases h2 with h2 | ⟨h2, h4⟩
      · exact .inl (by omega)
      · exact .inr ⟨by omega, slt_trans h3 h4⟩
theorem slt_conn : ∀ {a b : List Nat}, sltB a b = false → sltB b a = false → a = b
  | [], [], _, _ => rfl
  | [], _ :: _, h, _ => by cases h
  | _ :: _, [], _, h => by cases h
  | a :: s, b :: t, h1, h2 => by
    unfold sltB at *
    simp only [Bool.or_eq_false_iff, Bool.and_eq_false_iff, decide_eq_false_iff_not] at *
    obtain ⟨g1, g2⟩ := h1
    obtain ⟨g3, g4⟩ := h2
    have e : a = b := by omega
    subst e
    have r1 : sltB s t = false := by
      rcases g2 with g | g
      · exact absurd rfl g
      · exact g
    have r2 : sltB t s = false := by
      rcases g4 with g | g
      · exact absurd rfl g
      · exact g
    rw [slt_conn r1 r2]
theorem slt_asym {a b : List Nat} (h : sltB a b = true) : sltB b a = false := by
  cases e : sltB b a with
  | false => rfl
  | true =>
    have := slt_trans h e
    rw [slt_irr] at this
    cases this
/-! ### the program's intervals -/
def b12 : Ss := (.cons (.ret (.or (.cmp .is (.var 1) (.non)) (.cmp .lt (.var 0) (.var 1)))) .nil)
def b14 : Ss := (.cons (.ret (.and (.call 12 (.cons (.ix (.var 0) (.int 0)) (.cons (.ix (.var 1) (.int 1)) .nil))) (.call 12 (.cons (.ix (.var 1) (.int 0)) (.cons (.ix (.var 0) (.int 1)) .nil))))) .nil)
def b15 : Ss := (.cons (.asg (.nm 1) (.bi .min (.cons (.comp [3] (.ix (.var 3) (.int 0)) (.nm 3) (.seq (.var 0)) .none) .nil))) (.cons (.asgc 2 (.comp [3] (.ix (.var 3) (.int 1)) (.nm 3) (.seq (.var 0)) .none)) (.cons (.ite (.cmp .mem
  (.non) (.var 2)) (.cons (.ret (.tup (.cons (.var 1) (.cons (.non) .nil)))) .nil) .nil) (.cons (.ret (.tup (.cons (.var 1) (.cons (.bi .max (.cons (.var 2) .nil)) .nil)))) .nil))))
/-- a high end -/
def oD : Option (List Nat) → D
  | none => .non
  | some s => .str s
abbrev Iv := List Nat × Option (List Nat)
def iv (p : Iv) : D := .tup [.str p.1, oD p.2]
def belowB (s : List Nat) : Option (List Nat) → Bool
  | none => true
  | some t => sltB s t
@[simp] theorem below_n (s : List Nat) : belowB s none = true := rfl
@[simp] theorem below_s (s t : List Nat) : belowB s (some t) = sltB s t := rfl
@[simp] theorem un_iv (p : Iv) : isUn (iv p) = false := rfl
@[simp] theorem un_oD (p : Option (List Nat)) : isUn (oD p) = false := by cases p <;> rfl
@[simp] theorem rd_iv (m : Mu) (p : Iv) : rd m (iv p) = iv p := rfl
@[simp] theorem rd_oD (m : Mu) (p : Option (List Nat)) : rd m (oD p) = oD p := by cases p <;> rfl
@[simp] theorem ix_iv0 (p : Iv) (Q : D → Prop) : ixR (iv p) (.int 0) Q = Q (.str p.1) := by
  show (∃ d, L2.atI _ _ = some d ∧ Q d) = _
  simp
@[simp] theorem ix_iv1 (p : Iv) (Q : D → Prop) : ixR (iv p) (.int 1) Q = Q (oD p.2) := by
  show (∃ d, L2.atI _ _ = some d ∧ Q d) = _
  simp
@[simp] theorem is_oD (p : Option (List Nat)) (Q : Bool → Prop) : cmpR .is (oD p) .non Q = Q p.isNone := by cases p <;> rfl
@[simp] theorem isn_oD (p : Option (List Nat)) (Q : Bool → Prop) : cmpR .isn (oD p) .non Q = Q p.isSome := by cases p <;> rfl
section
variable {T : Tb} {gv : Nat → D} {k : Nat} {m : Mu} {Q : Pq} {X : Px}
theorem sp_below (h : T 12 = some (.df 2 2 b12)) {s : List Nat} {t : Option (List Nat)} (hq : Q (.bl (belowB s t)) m) : run T gv (k + 1) true 12 [.str s, oD t] m Q X := by
  refine run_df h rfl ?_
  cases t with
  | none =>
    simp [b12, oD, wpSs, wpS, wpE, wpT, wpEs, wpEo, wpTo, wpIt, wpFs, wpHs, madeR, fmtD, setAll, seqD, bindP, bindPs, wipeE, startE, -Bool.exists_bool, -Bool.forall_bool]
    exact hq
  | some t =>
    simp [b12, oD, wpSs, wpS, wpE, wpT, wpEs, wpEo, wpTo, wpIt, wpFs, wpHs, madeR, fmtD, setAll, seqD, bindP, bindPs, wipeE, startE, -Bool.exists_bool, -Bool.forall_bool]
    exact hq
theorem sp_meets (h : T 12 = some (.df 2 2 b12)) (h2 : T 14 = some (.df 2 2 b14)) {p q : Iv} (hq : Q (.bl (belowB p.1 q.2 && belowB q.1 p.2)) m) : run T gv (k + 2) true 14 [iv p, iv q] m Q X := by
  refine run_df h2 rfl ?_
  simp [b14, wpSs, wpS, wpE, wpT, wpEs, wpEo, wpTo, wpIt, wpFs, wpHs, madeR, fmtD, setAll, seqD, bindP, bindPs, wipeE, startE, -Bool.exists_bool, -Bool.forall_bool]
  refine sp_below h ?_
  simp [-Bool.exists_bool, -Bool.forall_bool]
  cases e : belowB p.1 q.2 with
  | false =>
    rw [e] at hq
    exact hq
  | true =>
    rw [e] at hq
    exact sp_below h hq
/-- the low end, the high end of a hull -/
def hullHi (ps : List Iv) : Option (List Nat) := if ps.all (fun p => p.2.isSome) = true then (match ps.map (fun p => p.2.getD []) with
  | [] => none
  | s :: ss => some (maxS s ss)) else none
def hullLo (ps : List Iv) : List Nat := match ps.map (fun p => p.1) with
  | [] => []
  | s :: ss => minS s ss
theorem strs_map {α : Type} (f : α → List Nat) : ∀ ps : List α, strsD (ps.map fun p => .str (f p)) = some (ps.map f)
  | [] => rfl
  | p :: ps => by
    rw [List.map_cons]
    unfold strsD
    rw [strs_map f ps]
    rfl
theorem bl_map {α : Type} (f : α → Bool) : ∀ ps : List α, blsD (ps.map fun p => .bl (f p)) = some (ps.map f)
  | [] => rfl
  | p :: ps => by
    rw [List.map_cons]
    unfold blsD
    rw [bl_map f ps]
    rfl
theorem min_lo {ps : List Iv} (hp : ps ≠ []) {Q : D → Prop} (hq : Q (.str (hullLo ps))) : biR .min m [.lst (ps.map fun p => D.str p.1)] Q := by
  cases ps with
  | nil => exact absurd rfl hp
  | cons p ps =>
    rw [bi_minl]
    exact .inr ⟨_, _, strs_map (fun p : Iv => p.1) (p :: ps), hq⟩
theorem max_hi {ps : List Iv} (hp : ps ≠ []) (ha : ps.all (fun p => p.2.isSome) = true) {Q : D → Prop} (hq : Q (oD (hullHi ps))) : biR .max m [.lst (ps.map fun p => oD p.2)] Q := by
  have e : ps.map (fun p => oD p.2) = ps.map fun p => D.str (p.2.getD []) := by
    refine List.map_congr_left fun p hp => ?_
    have := List.all_eq_true.mp ha p hp
    cases h : p.2 with
    | none => rw [h] at this; cases this
    | some t => rfl
  rw [e, bi_maxl]
  cases ps with
  | nil => exact absurd rfl hp
  | cons p ps =>
    refine .inr ⟨_, _, strs_map (fun p : Iv => p.2.getD []) (p :: ps), ?_⟩
    unfold hullHi at hq
    rw [if_pos ha] at hq
    exact hq
theorem mem_non : ∀ ps : List Iv, memD .non (ps.map fun p => oD p.2) = !ps.all fun p => p.2.isSome
  | [] => rfl
  | p :: ps => by
    have ih := mem_non ps
    unfold memD at *
    rw [List.map_cons, List.any_cons, ih, List.all_cons]
    cases h : p.2 <;> simp [oD]
theorem oD_sca (ps : List Iv) : (ps.map fun p => oD p.2).all scaD = true := by
  rw [List.all_eq_true]
  intro d hd
  obtain ⟨p, _, rfl⟩ := List.mem_map.mp hd
  cases h : p.2 <;> rfl
theorem comp_iv {σ : Env} {Q' : List D → Mu → Prop} {ps : List Iv} {body : Env → Mu → (Option D → Mu → Prop) → Prop} {p : Pt} {gs : List (Nat × List D)} (f : Iv → D) (hg : Gd gs m) (hb : ∀ q : Iv, ∃ σ', bindP p (iv q) σ = some σ' ∧ ∀ R : Option D → Mu → Prop, R (some (f q)) m → body σ' m R) (hq : Q' (ps.map f) m) :
    compL gs p body σ (ps.map iv) m [] Q' := by
  refine compL_ind (fun i acc => acc = (ps.map f).take i) hg _ 0 [] _ rfl ?_ ?_
  · intro j d acc hj ha
    subst ha
    rw [List.getElem?_map] at hj
    cases hp : ps[j]? with
    | none => rw [hp] at hj; cases hj
    | some q =>
      rw [hp] at hj
      cases hj
      obtain ⟨σ', h1, h2⟩ := hb q
      refine ⟨σ', h1, fun R hR => h2 R (hR _ ?_)⟩
      have e : (ps.map f)[j]? = some (f q) := by rw [List.getElem?_map, hp]; rfl
      show (ps.map f).take (0 + j) ++ [f q] = (ps.map f).take (0 + j + 1)
      rw [Nat.zero_add, List.take_add_one, e]
      rfl
  · intro acc ha
    subst ha
    have e : (ps.map f).take (0 + (ps.map iv).length) = ps.map f := List.take_of_length_le (by simp)
    rw [e]
    exact hq
theorem sp_hull (h : T 15 = some (.df 1 4 b15)) {ps : List Iv} (hp : ps ≠ []) {d : D} (hd : d = .lst (ps.map iv) ∨ d = .tup (ps.map iv)) (hq : Q (iv (hullLo ps, hullHi ps)) m) : run T gv (k + 1) true 15 [d] m Q X := by
  refine run_df h rfl ?_
  have go : ∀ d2 : D, isUn d2 = false → compL [] (Pt.nm 3) (fun σ2 m2 R => ∃ d, σ2[3]? = some d ∧ isUn d = false ∧ ixR (rd m2 d) (D.int 0) fun d => R (some d) m2) [d2, D.un, D.un, D.un] (ps.map iv) m [] fun acc m2 =>
      biR Bi.min m2 [D.lst acc] fun d => compL [] (Pt.nm 3) (fun σ2 m2 R => ∃ d, σ2[3]? = some d ∧ isUn d = false ∧ ixR (rd m2 d) (D.int 1) fun d => R (some d) m2) [d2, d, D.un, D.un] (ps.map iv) m2 [] fun acc m2 =>
        (∀ x, x ∈ acc → scaD x = true) ∧ if memD D.non acc = true then isUn d = false ∧ Q (D.tup [d, D.non]) m2 else isUn d = false ∧ biR Bi.max m2 [D.lst acc] fun d_1 => Q (D.tup [d, d_1]) m2 := by
    intro d2 _
    refine comp_iv (fun q => .str q.1) (gd_nilS m) (fun q => ⟨_, rfl, fun R hR => ⟨_, rfl, rfl, ?_⟩⟩) ?_
    · simpa using hR
    refine min_lo hp ?_
    refine comp_iv (fun q => oD q.2) (gd_nilS m) (fun q => ⟨_, rfl, fun R hR => ⟨_, rfl, rfl, ?_⟩⟩) ?_
    · simpa using hR
    refine ⟨fun x hx => List.all_eq_true.mp (oD_sca ps) x hx, ?_⟩
    rw [mem_non]
    cases ha : ps.all fun p => p.2.isSome with
    | true =>
      refine (if_neg (by decide)).mpr ⟨rfl, max_hi hp ha ?_⟩
      exact hq
    | false =>
      refine (if_pos (by decide)).mpr ⟨rfl, ?_⟩
      have e : hullHi ps = none := by
        unfold hullHi
        rw [if_neg (by rw [ha]; decide)]
      rw [e] at hq
      exact hq
  rcases hd with rfl | rfl
  · simp [b15, wpSs, wpS, wpE, wpT, wpEs, wpEo, wpTo, wpIt, wpFs, wpHs, madeR, fmtD, setAll, seqD, bindP, bindPs, wipeE, startE, -Bool.exists_bool, -Bool.forall_bool]
    exact go _ rfl
  · simp [b15, wpSs, wpS, wpE, wpT, wpEs, wpEo, wpTo, wpIt, wpFs, wpHs, madeR, fmtD, setAll, seqD, bindP, bindPs, wipeE, startE, -Bool.exists_bool, -Bool.forall_bool]
    exact go _ rfl
end
end Pk

/-! Plain work: comprehensions and loops over mapped lists; ops, histories. -/
namespace Pk
section
variable {m : Mu}
theorem comp_mp {α : Type} (g : α → D) (f : α → Option D) {gs : List (Nat × List D)} {p : Pt} {body : Env → Mu → (Option D → Mu → Prop) → Prop} {σ : Env} (hg : Gd gs m) : ∀ (xs : List α) (acc : List D) (Q : List D → Mu → Prop),
    (∀ x ∈ xs, ∃ σ', bindP p (g x) σ = some σ' ∧ ∀ R : Option D → Mu → Prop, R (f x) m → body σ' m R) → Q (acc ++ xs.filterMap f) m → compL gs p body σ (xs.map g) m acc Q
  | [], acc, Q, _, hq => ⟨hg, by simpa using hq⟩
  | x :: xs, acc, Q, h, hq => by
    obtain ⟨σ', h1, h2⟩ := h x (List.mem_cons_self ..)
    refine ⟨hg, σ', h1, h2 _ ?_⟩
    cases e : f x with
    | none =>
      refine comp_mp g f hg xs acc Q (fun y hy => h y (List.mem_cons_of_mem _ hy)) ?_
      rw [List.filterMap_cons, e] at hq
      exact hq
    | some v =>
      refine comp_mp g f hg xs (acc ++ [v]) Q (fun y hy => h y (List.mem_cons_of_mem _ hy)) ?_
      rw [List.filterMap_cons, e] at hq
      simpa using hq
theorem comp_map {α : Type} (g f : α → D) {gs : List (Nat × List D)} {p : Pt} {body : Env → Mu → (Option D → Mu → Prop) → Prop} {σ : Env} (hg : Gd gs m) (xs : List α) (Q : List D → Mu → Prop)
    (h : ∀ x ∈ xs, ∃ σ', bindP p (g x) σ = some σ' ∧ ∀ R : Option D → Mu → Prop, R (some (f x)) m → body σ' m R) (hq : Q (xs.map f) m) : compL gs p body σ (xs.map g) m [] Q :=
  comp_mp g (fun x => some (f x)) hg xs [] Q h (by simpa using hq)
theorem for_mp {α : Type} (g : α → D) {gs : List (Nat × List D)} {p : Pt} {body : Env → Mu → Kt → Prop} {K : Kt} (I : Nat → Env → Mu → Prop) (hg : ∀ i σ m, I i σ m → Gd gs m) (xs : List α) {σ : Env} {m : Mu} (h0 : I 0 σ m)
    (h : ∀ j x σ m, xs[j]? = some x → I j σ m → ∃ σ', bindP p (g x) σ = some σ' ∧ ∀ nx : Env → Mu → Prop, (∀ σ2 m2, I (j + 1) σ2 m2 → nx σ2 m2) → body σ' m ⟨nx, K.rt, K.xx⟩) (hq : ∀ σ m, I xs.length σ m → K.nx σ m) : forL gs p body (xs.map g) σ m K := by
  refine forL_ind I hg _ 0 σ m h0 (fun j d σ m hj hi => ?_) fun σ m hi => hq σ m (by simpa using hi)
  rw [List.getElem?_map] at hj
  cases e : xs[j]? with
  | none => rw [e] at hj; cases hj
  | some x =>
    rw [e] at hj
    cases hj
    rw [Nat.zero_add] at *
    obtain ⟨σ', h1, h2⟩ := h j x σ m e hi
    exact ⟨σ', h1, fun nx hnx => h2 nx fun σ2 m2 q => hnx σ2 m2 q⟩
theorem cut_map {α β : Type} (f : α → β) (xs : List α) (lo hi : Option Int) : cutG (xs.map f) lo hi = (cutG xs lo hi).map f := by
  unfold cutG
  rw [List.length_map, List.map_take, List.map_drop]
theorem cut_mem {α : Type} {xs : List α} {lo hi : Option Int} {x : α} (h : x ∈ cutG xs lo hi) : x ∈ xs := List.mem_of_mem_drop (List.mem_of_mem_take h)
theorem cut_len {α : Type} (xs : List α) (lo hi : Option Int) : (cutG xs lo hi).length ≤ xs.length := by
  unfold cutG
  rw [List.length_take, List.length_drop]
  omega
theorem take_snoc {α : Type} {xs : List α} {j : Nat} {x : α} (h : xs[j]? = some x) : xs.take (j + 1) = xs.take j ++ [x] := by
  rw [List.take_add_one, h]
  rfl
end
@[simp] theorem slc_l (ds : List D) (lo hi : Option Int) (Q : D → Prop) : slcR (.lst ds) lo hi Q = Q (.lst (cutG ds lo hi)) := rfl
/-! ### ops, histories -/
inductive Op where
  | put (k : List Nat) (v : Int) | strike (k : List Nat) | stretch (lo : List Nat) (hi : Option (List Nat))
def sPut : List Nat := [112, 117, 116]
def sStrike : List Nat := [115, 116, 114, 105, 107, 101]
def sStretch : List Nat := [115, 116, 114, 101, 116, 99, 104]
def opD : Op → D
  | .put k v => .tup [.str sPut, .str k, .int v]
  | .strike k => .tup [.str sStrike, .str k]
  | .stretch lo hi => .tup [.str sStretch, .str lo, oD hi]
abbrev Ent := Int × Op
def entD (e : Ent) : D := .tup [.int e.1, opD e.2]
def atD : Option Int → D
  | none => .non
  | some i => .int i
def touB : Op → List Nat → Bool
  | .put k _, key => k == key
  | .strike k, key => k == key
  | .stretch lo hi, key => !sltB key lo && belowB key hi
def toldD : Op → D
  | .put _ v => .int v
  | _ => .non
def seenB (at_ : Option Int) (s : Int) : Bool := match at_ with
  | none => true
  | some a => decide (s ≤ a)
/-- the last op that is seen and touches -/
def lastOn (key : List Nat) (at_ : Option Int) : List Ent → Option Ent → Option Ent
  | [], acc => acc
  | e :: r, acc => lastOn key at_ r (if seenB at_ e.1 && touB e.2 key then some e else acc)
def readD (h : List Ent) (key : List Nat) (at_ : Option Int) : D := match lastOn key at_ h none with
  | none => .non
  | some e => toldD e.2
theorem lastOn_app (key : List Nat) (at_ : Option Int) : ∀ (h : List Ent) (e : Ent) (acc : Option Ent), lastOn key at_ (h ++ [e]) acc = if seenB at_ e.1 && touB e.2 key then some e else lastOn key at_ h acc
  | [], e, acc => rfl
  | x :: h, e, acc => lastOn_app key at_ h e _
@[simp] theorem un_op (o : Op) : isUn (opD o) = false := by cases o <;> rfl
@[simp] theorem rd_op (m : Mu) (o : Op) : rd m (opD o) = opD o := by cases o <;> rfl
@[simp] theorem un_ent (e : Ent) : isUn (entD e) = false := rfl
@[simp] theorem rd_ent (m : Mu) (e : Ent) : rd m (entD e) = entD e := rfl
@[simp] theorem un_at (a : Option Int) : isUn (atD a) = false := by cases a <;> rfl
@[simp] theorem rd_at (m : Mu) (a : Option Int) : rd m (atD a) = atD a := by cases a <;> rfl
@[simp] theorem is_at (p : Option Int) (Q : Bool → Prop) : cmpR .is (atD p) .non Q = Q p.isNone := by cases p <;> rfl
@[simp] theorem ix_op1 (o : Op) (Q : D → Prop) : ixR (opD o) (.int 1) Q = Q (.str (match o with
  | .put k _ => k
  | .strike k => k
  | .stretch lo _ => lo)) := by cases o <;> simp [opD]
def opK (o : Op) : List Nat := match o with
  | .put k _ => k
  | .strike k => k
  | .stretch lo _ => lo
/-- an op's word -/
def opW : Op → List Nat
  | .put .. => sPut
  | .strike _ => sStrike
  | .stretch .. => sStretch
@[simp] theorem ix_op0 (o : Op) (Q : D → Prop) : ixR (opD o) (.int 0) Q = Q (.str (opW o)) := by cases o <;> simp [opD, opW]
@[simp] theorem bind_ent (e : Ent) (i j : Nat) (σ : Env) : bindP (.tp (.cons (.nm i) (.cons (.nm j) .nil))) (entD e) σ = some ((σ.set i (.int e.1)).set j (opD e.2)) := rfl
def b13 : Ss := .cons (.ret (.and (.cmp .le (.var 1) (.var 0)) (.call 12 (.cons (.var 0) (.cons (.var 2) .nil))))) .nil
def b19a : Ss := .cons (.ret (.call 13 (.cons (.var 1) (.cons (.ix (.var 0) (.int 1)) (.cons (.ix (.var 0) (.int 2)) .nil))))) .nil
def b19_1 : Ss := .cons (.ret (.cmp .eq (.ix (.var 0) (.int 1)) (.var 1))) .nil
def b19 : Ss := .cons (.ite (.cmp .eq (.ix (.var 0) (.int 0)) (.str [115, 116, 114, 101, 116, 99, 104])) b19a .nil) b19_1
def b20 : Ss := .cons (.ret (.ife (.cmp .eq (.ix (.var 0) (.int 0)) (.str [112, 117, 116])) (.ix (.var 0) (.int 2)) (.non))) .nil
def b21b : Ss := .cons (.asg (.nm 3) (.tup (.cons (.var 4) (.cons (.var 5) .nil)))) .nil
def b21a : Ss := .cons (.ite (.and (.or (.cmp .is (.var 2) (.non)) (.cmp .le (.var 4) (.var 2))) (.call 19 (.cons (.var 5) (.cons (.var 1) .nil)))) b21b .nil) .nil
def b21_2 : Ss := .cons (.ret (.var 3)) .nil
def b21_1 : Ss := .cons (.forr (.tp (.cons (.nm 4) (.cons (.nm 5) .nil))) (.seq (.var 0)) b21a) b21_2
def b21 : Ss := .cons (.asg (.nm 3) (.non)) b21_1
def b22_1 : Ss := .cons (.ret (.ife (.cmp .is (.var 3) (.non)) (.non) (.call 20 (.cons (.ix (.var 3) (.int 1)) .nil)))) .nil
def b22 : Ss := .cons (.asg (.nm 3) (.call 21 (.cons (.var 0) (.cons (.var 1) (.cons (.var 2) .nil))))) b22_1
section
variable {T : Tb} {gv : Nat → D} {k : Nat} {m : Mu} {Q : Pq} {X : Px}
theorem sp_within (h : T 12 = some (.df 2 2 b12)) (h3 : T 13 = some (.df 3 3 b13)) {s lo : List Nat} {t : Option (List Nat)} (hq : Q (.bl (!sltB s lo && belowB s t)) m) : run T gv (k + 2) true 13 [.str s, .str lo, oD t] m Q X := by
  refine run_df h3 rfl ?_
  simp [b13, wpSs, wpS, wpE, wpT, wpEs, wpEo, wpTo, wpIt, wpFs, wpHs, madeR, fmtD, setAll, seqD, bindP, bindPs, wipeE, startE, -Bool.exists_bool, -Bool.forall_bool]
  cases e : sltB s lo with
  | true =>
    rw [e] at hq
    simpa using hq
  | false =>
    rw [e] at hq
    simp [-Bool.exists_bool, -Bool.forall_bool]
    exact sp_below h (by simpa using hq)
theorem sp_touches (h : T 12 = some (.df 2 2 b12)) (h3 : T 13 = some (.df 3 3 b13)) (h19 : T 19 = some (.df 2 2 b19)) {o : Op} {s : List Nat} (hq : Q (.bl (touB o s)) m) : run T gv (k + 3) true 19 [opD o, .str s] m Q X := by
  refine run_df h19 rfl ?_
  simp [b19, b19a, b19_1, wpSs, wpS, wpE, wpT, wpEs, wpEo, wpTo, wpIt, wpFs, wpHs, madeR, fmtD, setAll, seqD, bindP, bindPs, wipeE, startE, -Bool.exists_bool, -Bool.forall_bool]
  cases o with
  | put kk v => simpa [opW, sPut, touB] using hq
  | strike kk => simpa [opW, sStrike, touB] using hq
  | stretch lo hi =>
    simp [opW, sStretch, opD, -Bool.exists_bool, -Bool.forall_bool]
    exact sp_within h h3 hq
theorem sp_told (h : T 20 = some (.df 1 1 b20)) {o : Op} (hq : Q (toldD o) m) : run T gv (k + 1) true 20 [opD o] m Q X := by
  refine run_df h rfl ?_
  simp [b20, wpSs, wpS, wpE, wpT, wpEs, wpEo, wpTo, wpIt, wpFs, wpHs, madeR, fmtD, setAll, seqD, bindP, bindPs, wipeE, startE, -Bool.exists_bool, -Bool.forall_bool]
  cases o with
  | put kk v =>
    simp [opW, sPut, opD]
    exact hq
  | strike kk => simpa [opW, sStrike, toldD] using hq
  | stretch lo hi => simpa [opW, sStretch, toldD] using hq
def foD : Option Ent → D
  | none => .non
  | some e => entD e
@[simp] theorem un_fo (p : Option Ent) : isUn (foD p) = false := by cases p <;> rfl
@[simp] theorem rd_fo (m : Mu) (a : Option Ent) : rd m (foD a) = foD a := by cases a <;> rfl
@[simp] theorem is_fo (p : Option Ent) (Q : Bool → Prop) : cmpR .is (foD p) .non Q = Q p.isNone := by cases p <;> rfl
theorem sp_last (h : T 12 = some (.df 2 2 b12)) (h3 : T 13 = some (.df 3 3 b13)) (h19 : T 19 = some (.df 2 2 b19)) (h21 : T 21 = some (.df 3 6 b21)) {hs : List Ent} {d : D} (hd : d = .lst (hs.map entD) ∨ d = .tup (hs.map entD)) {s : List Nat} {a : Option Int}
    (hq : Q (foD (lastOn s a hs none)) m) : run T gv (k + 4) true 21 [d, .str s, atD a] m Q X := by
  refine run_df h21 rfl ?_
  have go : ∀ d : D, forL [] (.tp (.cons (.nm 4) (.cons (.nm 5) .nil))) (wpSs (run T gv (k + 3)) gv true b21a) (hs.map entD) [d, .str s, atD a, .non, .un, .un] m ⟨fun σ2 m2 => wpSs (run T gv (k + 3)) gv true b21_2 σ2 m2 ⟨fun _ m => Q .non m, Q, fun x _ m => X x m⟩, Q, fun x _ m => X x m⟩ := by
    intro d
    refine for_mp entD (fun i σ m2 => ∃ d4 d5 : D, σ = [d, .str s, atD a, foD (lastOn s a (hs.take i) none), d4, d5] ∧ m2 = m) (fun _ _ m _ => gd_nilS m) hs ⟨_, _, rfl, rfl⟩ ?_ ?_
    · rintro j e σ m2 hj ⟨d4, d5, rfl, rfl⟩
      refine ⟨_, rfl, fun nx hnx => ?_⟩
      have step : nx [d, .str s, atD a, foD (if seenB a e.1 && touB e.2 s then some e else lastOn s a (hs.take j) none), .int e.1, opD e.2] m2 := hnx _ _ ⟨_, _, by rw [take_snoc hj, lastOn_app], rfl⟩
      simp [b21a, b21b, wpSs, wpS, wpE, wpT, wpEs, wpEo, wpTo, wpIt, wpFs, wpHs, madeR, fmtD, setAll, seqD, bindP, bindPs, wipeE, startE, -Bool.exists_bool, -Bool.forall_bool]
      have rest : ∀ {v : Bool}, seenB a e.1 = v → (if v = true then run T gv (k + 3) true 19 [opD e.2, .str s] m2 (fun d_1 m1 => ∃ k, truD (rd m1 d_1) = some k ∧ if k = true then nx [d, .str s, atD a, .tup [.int e.1, opD e.2], .int e.1, opD e.2] m1 else nx [d, .str s, atD a, foD (lastOn s a (hs.take j) none), .int e.1, opD e.2] m1) X else nx [d, .str s, atD a, foD (lastOn s a (hs.take j) none), .int e.1, opD e.2] m2) := by
        intro v hv
        rw [hv] at step
        cases v with
        | false => exact (if_neg (by decide)).mpr step
        | true =>
          refine (if_pos rfl).mpr (sp_touches h h3 h19 ⟨_, rfl, ?_⟩)
          cases ht : touB e.2 s with
          | true =>
            rw [ht] at step
            exact (if_pos rfl).mpr step
          | false =>
            rw [ht] at step
            exact (if_neg (by decide)).mpr step
      cases a with
      | none => exact (if_pos rfl).mpr ((if_pos rfl).mp (rest (v := true) rfl))
      | some i => exact (if_neg (fun z => by cases z)).mpr (rest (v := decide (e.1 ≤ i)) rfl)
    · rintro σ m2 ⟨d4, d5, rfl, rfl⟩
      rw [List.take_length]
      simp [b21_2, wpSs, wpS, wpE, wpT, wpEs, wpEo, wpTo, wpIt, wpFs, wpHs, madeR, fmtD, setAll, seqD, bindP, bindPs, wipeE, startE, -Bool.exists_bool, -Bool.forall_bool]
      exact hq
  rcases hd with rfl | rfl
  · simp [b21, wpSs, wpS, wpE, wpT, wpEs, wpEo, wpTo, wpIt, wpFs, wpHs, madeR, fmtD, setAll, seqD, bindP, bindPs, wipeE, startE, -Bool.exists_bool, -Bool.forall_bool]
    simp [b21_1, wpSs, wpS, wpE, wpT, wpEs, wpEo, wpTo, wpIt, wpFs, wpHs, madeR, fmtD, setAll, seqD, bindP, bindPs, wipeE, startE, -Bool.exists_bool, -Bool.forall_bool]
    exact go _
  · simp [b21, wpSs, wpS, wpE, wpT, wpEs, wpEo, wpTo, wpIt, wpFs, wpHs, madeR, fmtD, setAll, seqD, bindP, bindPs, wipeE, startE, -Bool.exists_bool, -Bool.forall_bool]
    simp [b21_1, wpSs, wpS, wpE, wpT, wpEs, wpEo, wpTo, wpIt, wpFs, wpHs, madeR, fmtD, setAll, seqD, bindP, bindPs, wipeE, startE, -Bool.exists_bool, -Bool.forall_bool]
    exact go _
theorem sp_plain (h : T 12 = some (.df 2 2 b12)) (h3 : T 13 = some (.df 3 3 b13)) (h19 : T 19 = some (.df 2 2 b19)) (h20 : T 20 = some (.df 1 1 b20)) (h21 : T 21 = some (.df 3 6 b21)) (h22 : T 22 = some (.df 3 4 b22)) {hs : List Ent} {d : D} (hd : d = .lst (hs.map entD) ∨ d = .tup (hs.map entD)) {s : List Nat} {a : Option Int}
    (hq : Q (readD hs s a) m) : run T gv (k + 5) true 22 [d, .str s, atD a] m Q X := by
  refine run_df h22 rfl ?_
  have hu : isUn d = false := by rcases hd with rfl | rfl <;> rfl
  simp [b22, wpSs, wpS, wpE, wpT, wpEs, wpEo, wpTo, wpIt, wpFs, wpHs, madeR, fmtD, setAll, seqD, bindP, bindPs, wipeE, startE, -Bool.exists_bool, -Bool.forall_bool, hu]
  refine sp_last h h3 h19 h21 hd ?_
  simp [b22_1, wpSs, wpS, wpE, wpT, wpEs, wpEo, wpTo, wpIt, wpFs, wpHs, madeR, fmtD, setAll, seqD, bindP, bindPs, wipeE, startE, -Bool.exists_bool, -Bool.forall_bool]
  unfold readD at hq
  cases e : lastOn s a hs none with
  | none =>
    rw [e] at hq
    exact hq
  | some e2 =>
    rw [e] at hq
    simp [foD, entD]
    exact sp_told h20 hq
end
/-! ### the law's own reading -/
theorem flat_ents (hs : List Ent) (h : ∀ e ∈ hs, flatD 38 (opD e.2) = true) : flatL 39 (hs.map entD) = true := by
  induction hs with
  | nil => rfl
  | cons e hs ih =>
    show (flatD 39 (entD e) && flatL 39 (hs.map entD)) = true
    rw [ih fun x hx => h x (List.mem_cons_of_mem _ hx)]
    have := h e (List.mem_cons_self ..)
    show ((true && (flatD 38 (opD e.2) && true)) && true) = true
    rw [this]
    rfl
theorem eqD_op (o : Op) : eqD (opD o) (opD o) = true := by
  cases o with
  | put k v => simp [opD]
  | strike k => simp [opD]
  | stretch lo hi => cases hi <;> simp [opD, oD]
theorem eqL_ents (hs : List Ent) : eqL (hs.map entD) (hs.map entD) = true := by
  induction hs with
  | nil => rfl
  | cons e hs ih =>
    rw [List.map_cons, eL_cc, ih]
    simp [entD, eqD_op]
def strOk (s : List Nat) : Prop := ∀ c ∈ s, c < 1114112
def opOk' : Op → Prop
  | .put k _ => strOk k
  | .strike k => strOk k
  | .stretch lo hi => strOk lo ∧ ∀ t, hi = some t → strOk t
theorem strOk_all {s : List Nat} (h : strOk s) : s.all (· < 1114112) = true := by simpa [strOk] using h
theorem flat_op {o : Op} (h : opOk' o) : flatD 38 (opD o) = true := by
  cases o with
  | put k v =>
    show (sPut.all (· < 1114112) && (k.all (· < 1114112) && (true && true))) = true
    rw [strOk_all h]
    decide
  | strike k =>
    show (sStrike.all (· < 1114112) && (k.all (· < 1114112) && true)) = true
    rw [strOk_all h]
    decide
  | stretch lo hi =>
    show (sStretch.all (· < 1114112) && (lo.all (· < 1114112) && (flatD 37 (oD hi) && true))) = true
    rw [strOk_all h.1]
    cases hi with
    | none => decide
    | some t =>
      show (sStretch.all (· < 1114112) && (true && (t.all (· < 1114112) && true))) = true
      rw [strOk_all (h.2 t rfl)]
      decide
theorem key_ok {s : List Nat} (h : isKey s) : strOk s := fun c hc => by have := h.2.2 c hc; omega
end Pk

/-! Numbers as texts, texts parted at blanks: plain. -/
namespace Pk
open PySem L2 PySem.NumText PySem.W PyProof.Rows
/-- the figures of a number -/
def dgs (m : Nat) : List Nat := (Nat.toDigits 10 m).map Char.toNat
theorem intS_pos (m : Nat) : intS (m : Int) = dgs m := PySem.W.KIN.signs_num m
theorem dgs_all (m : Nat) : ∀ c ∈ dgs m, 48 ≤ c ∧ c ≤ 57 := by
  intro c hc
  obtain ⟨ch, hch, e⟩ := List.mem_map.mp hc
  have r := digit_range (Nat.isDigit_of_mem_toDigits (by decide) (by decide) hch)
  rw [← e]
  exact r
theorem dgs_ne (m : Nat) : dgs m ≠ [] := by
  intro e
  have h := toDigits_len_ge 10 m
  rw [List.map_eq_nil_iff.mp e] at h
  exact absurd h (by decide)
theorem dgs_len {m k : Nat} (hk : 1 ≤ k) (h : m < 10 ^ k) : (dgs m).length ≤ k := by
  unfold dgs
  rw [List.length_map]
  exact PyProof.Rows.digits10_le hk h
theorem dgs_zero : dgs 0 = [48] := by decide
theorem dgs_head (m : Nat) (h : 0 < m) : ∃ c r, dgs m = c :: r ∧ c ≠ 48 := by
  induction m using Nat.strongRecOn with
  | _ m ih =>
    by_cases hm : m < 10
    · refine ⟨(Nat.digitChar m).toNat, [], ?_, ?_⟩
      · unfold dgs
        rw [Nat.toDigits_of_lt_base hm]
        rfl
      · have := PySem.W.KIN.digit_back m hm
        have hc : ∀ d : Nat, d < 10 → 0 < d → (Nat.digitChar d).toNat ≠ 48 := by decide
        exact hc m hm h
    · obtain ⟨c, r, e, hc⟩ := ih (m / 10) (by omega) (by omega)
      have t : Nat.toDigits 10 (m / 10) ++ Nat.toDigits 10 (m % 10) = Nat.toDigits 10 (10 * (m / 10) + m % 10) := Nat.toDigits_append_toDigits (by decide) (by omega) (Nat.mod_lt m (by decide))
      rw [Nat.div_add_mod] at t
      refine ⟨c, r ++ dgs (m % 10), ?_, hc⟩
      unfold dgs at e ⊢
      rw [← t, List.map_append, e]
      rfl
theorem intS_neg (m : Nat) (h : 0 < m) : intS (-(m : Int)) = 45 :: dgs m := by
  obtain ⟨k, rfl⟩ : ∃ k, m = k + 1 := ⟨m - 1, by omega⟩
  unfold intS
  rw [PyProof.Rows.signs_ofString]
  show ("-" ++ Nat.repr (k + 1)).toList.map Char.toNat = _
  rw [String.toList_append, List.map_append, Nat.toList_repr]
  rfl
/-- a number's text: its figures, with a sign ahead of it where it is below nought -/
theorem intS_form (v : Int) : (∃ m : Nat, v = m ∧ intS v = dgs m) ∨ ∃ m : Nat, 0 < m ∧ v = -(m : Int) ∧ intS v = 45 :: dgs m := by
  rcases Int.lt_or_le v 0 with h | h
  · refine .inr ⟨v.natAbs, by omega, by omega, ?_⟩
    have := intS_neg v.natAbs (by omega)
    rw [← this]
    congr 1
    omega
  · refine .inl ⟨v.natAbs, by omega, ?_⟩
    rw [← intS_pos]
    congr 1
    omega
theorem intS_read (v : Int) (h : v.natAbs < 10 ^ 200) : PySem.intText? ⟨(intS v).toArray⟩ = some v := by
  rcases intS_form v with ⟨m, rfl, e⟩ | ⟨m, hm, rfl, e⟩
  · have hl := dgs_len (m := m) (k := 200) (by decide) (by simpa using h)
    have q := intText_digits (x := ⟨(dgs m).toArray⟩) (show AllDigits (dgs m) from dgs_all m) (dgs_ne m) (by show (dgs m).toArray.size ≤ 4300; simp; omega)
    rw [e, q]
    have := PySem.W.KIN.val_back m
    simp [dgs, this]
  · have hl := dgs_len (m := m) (k := 200) (by decide) (by simpa using h)
    have q := intText_neg (x := ⟨(45 :: dgs m).toArray⟩) (cs := dgs m) (by simp) (dgs_all m) (dgs_ne m) (by show (45 :: dgs m).toArray.size ≤ 4300; simp; omega)
    rw [e, q]
    have := PySem.W.KIN.val_back m
    simp [dgs, this]
theorem intS_len {v : Int} {k : Nat} (hk : 1 ≤ k) (h : v.natAbs < 10 ^ k) : (intS v).length ≤ k + 1 := by
  rcases intS_form v with ⟨m, rfl, e⟩ | ⟨m, hm, rfl, e⟩
  · have hl := dgs_len (m := m) hk (by simpa using h)
    rw [e]
    omega
  · have hl := dgs_len (m := m) hk (by simpa using h)
    rw [e, List.length_cons]
    omega
theorem log_ok {v : Int} (h : v.natAbs < 10 ^ 200) : v.natAbs.log2 < 1920 := by
  by_cases h0 : v.natAbs = 0
  · rw [h0]; decide
  · refine (Nat.log2_lt h0).mpr (Nat.lt_of_lt_of_le h (by decide +kernel))
/-! ### parted at a sign -/
theorem joinL_map (b : List Nat) : ∀ ps : List (List Nat), joinS b ps = joinS b ps := fun _ => rfl
/-- a text joined by a sign that its parts lack, parted there again -/
theorem split_join1 {c : Nat} (hc : c < 256) {ps : List (List Nat)} (hne : ps ≠ []) (hp : ∀ p ∈ ps, c ∉ p) : splitS (joinS [c] ps) [c] = ps := by
  have e := join_eq [c] ps
  have q := TL.split_join (y := mkS [c]) (s := c) (S := []) rfl (by simpa [mkS] using hc) (parts := ps.map mkS) (by simpa using hne) (by
    intro p h
    obtain ⟨z, hz, rfl⟩ := List.mem_map.mp h
    simpa [mkS, TL.tl] using hp z hz)
  rw [e] at q
  unfold splitS
  show (Txt.split (mkS (joinS [c] ps)) (mkS [c])).map (fun x => x.cps.toList) = ps
  rw [q, List.map_map]
  exact List.map_id'' (fun x => by simp [mkS]) ps
/-! ### rules -/
@[simp] theorem bi_str_int (m : Mu) (i : Int) (Q : D → Prop) : biR .str m [.int i] Q = (i.natAbs.log2 < 1920 ∧ Q (.str (intS i))) := rfl
@[simp] theorem bi_str_str (m : Mu) (s : List Nat) (Q : D → Prop) : biR .str m [.str s] Q = Q (.str s) := rfl
@[simp] theorem bi_int_str (m : Mu) (s : List Nat) (Q : D → Prop) : biR .int m [.str s] Q = ∃ n, PySem.intText? ⟨s.toArray⟩ = some n ∧ s.length ≤ 640 ∧ Q (.int n) := rfl
@[simp] theorem sm_split (m : Mu) (s b : List Nat) (Q : D → Prop) : smR .split m (.str s) [.str b] Q = ((b ≠ [] ∧ s.length + 2 ≤ line) ∧ Q (.lst ((splitS s b).map .str))) := rfl
theorem slc_s (s : List Nat) (lo hi : Option Int) (Q : D → Prop) : slcR (.str s) lo hi Q = (s.length ≤ line ∧ Q (.str (cutG s lo hi))) := rfl
theorem cut_take {α : Type} (s : List α) {r : Int} (h : 0 ≤ r) : cutG s none (some r) = s.take r.toNat := by
  have e : HT.sIx s.length s.length (some r) = min r.toNat s.length := by
    show (if r < 0 then _ else _) = _
    rw [if_neg (by omega)]
  unfold cutG
  rw [e]
  show (s.drop 0).take (min r.toNat s.length - 0) = _
  rw [List.drop_zero, Nat.sub_zero]
  by_cases hl : r.toNat ≤ s.length
  · rw [Nat.min_eq_left hl]
  · rw [Nat.min_eq_right (by omega), List.take_of_length_le (Nat.le_refl _), List.take_of_length_le (by omega)]
theorem cut_drop {α : Type} (s : List α) {r : Int} (h : 0 ≤ r) : cutG s (some r) none = s.drop r.toNat := by
  have e : HT.sIx s.length 0 (some r) = min r.toNat s.length := by
    show (if r < 0 then _ else _) = _
    rw [if_neg (by omega)]
  unfold cutG
  rw [e]
  show (s.drop (min r.toNat s.length)).take (s.length - min r.toNat s.length) = _
  by_cases hl : r.toNat ≤ s.length
  · rw [Nat.min_eq_left hl, List.take_of_length_le (by rw [List.length_drop]; omega)]
  · rw [Nat.min_eq_right (by omega), List.drop_of_length_le (Nat.le_refl _), List.drop_of_length_le (by omega), List.take_nil]
/-- a look at each sign of a text -/
theorem signs_in {m : Mu} (s : List Nat) (f : Nat → Bool) {p : Pt} {σ : Env} {Q' : List D → Mu → Prop} {body : Env → Mu → (Option D → Mu → Prop) → Prop} (hb : ∀ c : Nat, ∃ σ', bindP p (.str [c]) σ = some σ' ∧ ∀ R : Option D → Mu → Prop, R (some (.bl (f c))) m → body σ' m R)
    (hq : Q' (s.map fun c => D.bl (f c)) m) : compL [] p body σ (s.map fun c => D.str [c]) m [] Q' :=
  comp_map (fun c => D.str [c]) (fun c => D.bl (f c)) (gd_nilS m) s Q' (fun c _ => hb c) hq
/-! ### ops as texts -/
def opWs : Op → List (List Nat)
  | .put k v => [sPut, k, intS v]
  | .strike k => [sStrike, k]
  | .stretch lo hi => [sStretch, lo, hi.getD [45]]
def opText (o : Op) : List Nat := joinS [32] (opWs o)
/-- an op that is one -/
def opGood : Op → Prop
  | .put k v => isKey k ∧ v.natAbs < 10 ^ 30
  | .strike k => isKey k
  | .stretch lo hi => isKey lo ∧ ∀ h, hi = some h → isKey h ∧ sltB lo h = true
theorem opWs_free {o : Op} (h : opGood o) : ∀ p ∈ opWs o, 32 ∉ p := by
  have key : ∀ {s : List Nat}, isKey s → 32 ∉ s := fun {s} hs hm => by have := hs.2.2 32 hm; omega
  cases o with
  | put k v =>
    intro p hp
    simp [opWs] at hp
    rcases hp with rfl | rfl | rfl
    · decide
    · exact key h.1
    · rcases intS_form v with ⟨m, _, e⟩ | ⟨m, _, _, e⟩
      · rw [e]
        intro hm
        have := dgs_all m 32 hm
        omega
      · rw [e]
        intro hm
        rcases List.mem_cons.mp hm with q | q
        · cases q
        · have := dgs_all m 32 q
          omega
  | strike k =>
    intro p hp
    simp [opWs] at hp
    rcases hp with rfl | rfl
    · decide
    · exact key h
  | stretch lo hi =>
    intro p hp
    simp [opWs] at hp
    rcases hp with rfl | rfl | rfl
    · decide
    · exact key h.1
    · cases hi with
      | none => decide
      | some u => exact key (h.2 u rfl).1
theorem op_split {o : Op} (h : opGood o) : splitS (opText o) [32] = opWs o := split_join1 (by decide) (by cases o <;> simp [opWs]) (opWs_free h)
theorem opText_len {o : Op} (h : opGood o) : (opText o).length ≤ 60 := by
  cases o with
  | put k v =>
    have := intS_len (v := v) (k := 30) (by decide) h.2
    have := h.1.2.1
    simp [opText, opWs, joinS, sPut]
    omega
  | strike k =>
    have := h.2.1
    simp [opText, opWs, joinS, sStrike]
    omega
  | stretch lo hi =>
    have := h.1.2.1
    cases hi with
    | none =>
      simp [opText, opWs, joinS, sStretch]
      omega
    | some u =>
      have := (h.2 u rfl).1.2.1
      simp [opText, opWs, joinS, sStretch]
      omega
end Pk

/-! Plain work: things of any kind; keys, values, ops looked at; drawn values, ops, signs; refusals looked at. -/
namespace Pk
def b10a : Ss := .cons (.ret (.bl false)) .nil
def b10_1 : Ss := .cons (.ret (.bi .all (.cons (.comp [1] (.cmp .mem (.var 1) (.glob 0)) (.nm 1) (.seq (.var 0)) .none) .nil))) .nil
def b10 : Ss := .cons (.ite (.or (.not (.isi (.var 0) [.str])) (.not (.chain .lt .le (.int 0) (.bi .len (.cons (.var 0) .nil)) (.glob 1)))) b10a .nil) b10_1
def b16 : Ss := .cons (.ret (.and (.isi (.var 0) [.int]) (.and (.not (.isi (.var 0) [.bool])) (.cmp .lt (.bi .abs (.cons (.var 0) .nil)) (.glob 3))))) .nil
def b17a : Ss := .cons (.ret (.bl false)) .nil
def b17c : Ss := .cons (.ret (.and (.cmp .eq (.bi .len (.cons (.var 3) .nil)) (.int 1)) (.call 16 (.cons (.ix (.var 3) (.int 0)) .nil)))) .nil
def b17e : Ss := .cons (.ret (.and (.cmp .eq (.bi .len (.cons (.var 3) .nil)) (.int 1)) (.or (.cmp .is (.ix (.var 3) (.int 0)) (.non)) (.and (.call 10 (.cons (.ix (.var 3) (.int 0)) .nil)) (.cmp .lt (.var 2) (.ix (.var 3) (.int 0)))))))
  .nil
def b17_4 : Ss := .cons (.ret (.and (.cmp .eq (.var 1) (.str [115, 116, 114, 105, 107, 101])) (.cmp .eq (.var 3) (.lst .nil)))) .nil
def b17_3 : Ss := .cons (.ite (.cmp .eq (.var 1) (.str [115, 116, 114, 101, 116, 99, 104])) b17e .nil) b17_4
def b17_2 : Ss := .cons (.ite (.cmp .eq (.var 1) (.str [112, 117, 116])) b17c .nil) b17_3
def b17_1 : Ss := .cons (.star [1, 2] 3 (.var 0)) b17_2
def b17 : Ss := .cons (.ite (.or (.not (.isi (.var 0) [.tuple])) (.or (.cmp .lt (.bi .len (.cons (.var 0) .nil)) (.int 2)) (.not (.call 10 (.cons (.ix (.var 0) (.int 1)) .nil))))) b17a .nil) b17_1
def b2000_1 : Ss := .cons (.ret (.op2 .add (.var 0) (.str [97, 98, 99, 100, 101, 102, 103, 104, 105, 106, 107, 108, 109, 110, 111, 112, 113, 114, 115, 116, 117, 118, 119, 120, 121, 122, 123, 124, 125, 126]))) .nil
def b2000 : Ss := .cons (.asg (.nm 0) (.str [32, 33, 34, 35, 36, 38, 39, 40, 41, 42, 43, 44, 45, 46, 47, 48, 49, 50, 51, 52, 53, 54, 55, 56, 57, 58, 59, 60, 61, 62, 63, 64, 65, 66, 67, 68, 69, 70, 71, 72, 73, 74, 75, 76, 77, 78, 79, 80,
  81, 82, 83, 84, 85, 86, 87, 88, 89, 90, 91, 92, 93, 94, 95, 96])) b2000_1
def b2001a : Ss := .cons (.ret (.op2 .add (.op2 .add (.slc (.var 1) .none (.some (.var 2))) (.var 3)) (.slc (.var 1) (.some (.var 2)) .none))) .nil
def b2001c : Ss := .cons (.ret (.op2 .add (.slc (.var 1) .none (.some (.var 2))) (.slc (.var 1) (.some (.op2 .add (.var 2) (.int 1))) .none))) .nil
def b2001_5 : Ss := .cons (.ret (.op2 .add (.op2 .add (.slc (.var 1) .none (.some (.var 2))) (.var 3)) (.slc (.var 1) (.some (.op2 .add (.var 2) (.int 1))) .none))) .nil
def b2001_4 : Ss := .cons (.ite (.cmp .eq (.var 4) (.int 1)) b2001c .nil) b2001_5
def b2001_3 : Ss := .cons (.ite (.cmp .eq (.var 4) (.int 0)) b2001a .nil) b2001_4
def b2001_2 : Ss := .cons (.asg (.nm 4) (.call 1001 (.cons (.var 0) (.cons (.int 3) .nil)))) b2001_3
def b2001_1 : Ss := .cons (.asg (.nm 3) (.ix (.call 2000 .nil) (.call 1001 (.cons (.var 0) (.cons (.int 94) .nil))))) b2001_2
def b2001 : Ss := .cons (.asg (.nm 2) (.call 1001 (.cons (.var 0) (.cons (.op2 .add (.bi .len (.cons (.var 1) .nil)) (.int 1)) .nil)))) b2001_1
def b2003a : Ss := .cons (.ret (.bl false)) .nil
def b2003_1 : Ss := .cons (.ret (.bi .all (.cons (.comp [1] (.cmp .mem (.var 1) (.str [97, 98, 99, 100, 101, 102, 103, 104, 105, 106, 107, 108, 109, 110, 111, 112, 113, 114, 115, 116, 117, 118, 119, 120, 121, 122])) (.nm 1) (.seq (.var 0))
  .none) .nil))) .nil
def b2003 : Ss := .cons (.ite (.or (.not (.isi (.var 0) [.str])) (.or (.cmp .lt (.bi .len (.cons (.var 0) .nil)) (.int 1)) (.cmp .gt (.bi .len (.cons (.var 0) .nil)) (.int 8)))) b2003a .nil) b2003_1
def b2007a : Ss := .cons (.ret (.op2 .sub (.call 1001 (.cons (.var 0) (.cons (.op2 .sub (.op2 .mul (.int 2) (.op2 .pow (.int 10) (.int 30))) (.int 1)) .nil))) (.op2 .sub (.op2 .pow (.int 10) (.int 30)) (.int 1)))) .nil
def b2007_1 : Ss := .cons (.ret (.op2 .sub (.call 1001 (.cons (.var 0) (.cons (.int 19) .nil))) (.int 9))) .nil
def b2007 : Ss := .cons (.ite (.cmp .eq (.call 1001 (.cons (.var 0) (.cons (.int 4) .nil))) (.int 1)) b2007a .nil) b2007_1
def b2008a : Ss := .cons (.ret (.tup (.cons (.str [112, 117, 116]) (.cons (.var 2) (.cons (.call 2007 (.cons (.var 0) .nil)) .nil))))) .nil
def b2008c : Ss := .cons (.ret (.tup (.cons (.str [115, 116, 114, 105, 107, 101]) (.cons (.var 2) .nil)))) .nil
def b2008e : Ss := .cons (.ret (.tup (.cons (.str [115, 116, 114, 101, 116, 99, 104]) (.cons (.var 2) (.cons (.non) .nil))))) .nil
def b2008_6 : Ss := .cons (.ret (.tup (.cons (.str [115, 116, 114, 101, 116, 99, 104]) (.cons (.bi .min (.cons (.var 2) (.cons (.var 3) .nil))) (.cons (.bi .max (.cons (.var 2) (.cons (.var 3) .nil))) .nil))))) .nil
def b2008_5 : Ss := .cons (.ite (.or (.cmp .eq (.var 3) (.var 2)) (.cmp .eq (.call 1001 (.cons (.var 0) (.cons (.int 4) .nil))) (.int 1))) b2008e .nil) b2008_6
def b2008_4 : Ss := .cons (.asg (.nm 3) (.call 1003 (.cons (.var 0) .nil))) b2008_5
def b2008_3 : Ss := .cons (.ite (.cmp .lt (.var 1) (.int 6)) b2008c .nil) b2008_4
def b2008_2 : Ss := .cons (.ite (.cmp .lt (.var 1) (.int 4)) b2008a .nil) b2008_3
def b2008_1 : Ss := .cons (.asg (.nm 2) (.call 1003 (.cons (.var 0) .nil))) b2008_2
def b2008 : Ss := .cons (.asg (.nm 1) (.call 1001 (.cons (.var 0) (.cons (.int 8) .nil)))) b2008_1
def b2010_3 : Ss := .cons (.ret (.and (.cmp .eq (.cntT (.var 1)) (.int 1)) (.and (.xis 0 0) (.xis 0 100)))) .nil
def b2010_2 : Ss := .cons (.asg (.nm 1) (.op2 .add (.var 1) (.lst (.cons (.xis 0 9) (.cons (.xis 0 10) (.cons (.xis 0 11) .nil)))))) b2010_3
def b2010_1 : Ss := .cons (.asg (.nm 1) (.op2 .add (.var 1) (.lst (.cons (.xis 0 5) (.cons (.xis 0 6) (.cons (.xis 0 7) (.cons (.xis 0 8) .nil))))))) b2010_2
def b2010 : Ss := .cons (.asg (.nm 1) (.lst (.cons (.xis 0 1) (.cons (.xis 0 2) (.cons (.xis 0 3) (.cons (.xis 0 4) .nil)))))) b2010_1
def b1004 : Ss := .cons (.ret (.and (.isi (.var 0) [.int]) (.not (.isi (.var 0) [.bool])))) .nil
mutual
/-- plain data of short texts -/
def thB : Nat → D → Bool
  | _, .non => true
  | _, .bl _ => true
  | _, .int _ => true
  | _, .str s => s.all (· < 1114112) && decide (s.length ≤ 1000000)
  | n + 1, .tup ds => thL n ds
  | n + 1, .lst ds => thL n ds
  | _, _ => false
def thL : Nat → List D → Bool
  | _, [] => true
  | n, d :: ds => thB n d && thL n ds
end
mutual
theorem th_flat : ∀ {n : Nat} {d : D}, thB n d = true → flatD n d = true
  | n, .non, _ => by unfold flatD; rfl
  | n, .bl _, _ => by unfold flatD; rfl
  | n, .int _, _ => by unfold flatD; rfl
  | n, .str s, h => by unfold thB at h; unfold flatD; exact (Bool.and_eq_true_iff.mp h).1
  | n + 1, .tup ds, h => thL_flat (n := n) (ds := ds) h
  | n + 1, .lst ds, h => thL_flat (n := n) (ds := ds) h
  | 0, .tup _, h => by cases h
  | 0, .lst _, h => by cases h
  | n, .un, h => by cases n <;> cases h
  | n, .dct _, h => by cases n <;> cases h
  | n, .obj _ _, h => by cases n <;> cases h
  | n, .ref _, h => by cases n <;> cases h
  | n, .st _, h => by cases n <;> cases h
  | n, .fn _, h => by cases n <;> cases h
  | n, .scr _, h => by cases n <;> cases h
  | n, .exn _ _, h => by cases n <;> cases h
theorem thL_flat : ∀ {n : Nat} {ds : List D}, thL n ds = true → flatL n ds = true
  | n, [], _ => rfl
  | n, d :: ds, h => by
    have h' : (thB n d && thL n ds) = true := h
    obtain ⟨h1, h2⟩ := Bool.and_eq_true_iff.mp h'
    show (flatD n d && flatL n ds) = true
    rw [th_flat h1, thL_flat h2]
    rfl
end
mutual
theorem th_pl : ∀ {n : Nat} {d : D}, flatD n d = true → plD n d = true
  | n, .non, _ => by unfold plD; rfl
  | n, .bl _, _ => by unfold plD; rfl
  | n, .int _, _ => by unfold plD; rfl
  | n, .str s, h => by unfold plD; rfl
  | n + 1, .tup ds, h => thL_pl (n := n) (ds := ds) h
  | n + 1, .lst ds, h => thL_pl (n := n) (ds := ds) h
  | 0, .tup _, h => by cases h
  | 0, .lst _, h => by cases h
  | n, .un, h => by cases n <;> cases h
  | n, .dct _, h => by cases n <;> cases h
  | n, .obj _ _, h => by cases n <;> cases h
  | n, .ref _, h => by cases n <;> cases h
  | n, .st _, h => by cases n <;> cases h
  | n, .fn _, h => by cases n <;> cases h
  | n, .scr _, h => by cases n <;> cases h
  | n, .exn _ _, h => by cases n <;> cases h
theorem thL_pl : ∀ {n : Nat} {ds : List D}, flatL n ds = true → plL n ds = true
  | n, [], _ => by unfold plL; rfl
  | n, d :: ds, h => by
    have h' : (flatD n d && flatL n ds) = true := h
    obtain ⟨h1, h2⟩ := Bool.and_eq_true_iff.mp h'
    unfold plL
    rw [th_pl h1, thL_pl h2]
    rfl
end
mutual
theorem eqD_refl : ∀ {n : Nat} {d : D}, flatD n d = true → eqD d d = true
  | n, .non, _ => by simp
  | n, .bl _, _ => by simp
  | n, .int _, _ => by simp
  | n, .str s, h => by simp
  | n + 1, .tup ds, h => by rw [eq_tup_tup]; exact eqL_refl (n := n) (ds := ds) h
  | n + 1, .lst ds, h => by rw [eq_lst_lst]; exact eqL_refl (n := n) (ds := ds) h
  | 0, .tup _, h => by cases h
  | 0, .lst _, h => by cases h
  | n, .un, h => by cases n <;> cases h
  | n, .dct _, h => by cases n <;> cases h
  | n, .obj _ _, h => by cases n <;> cases h
  | n, .ref _, h => by cases n <;> cases h
  | n, .st _, h => by cases n <;> cases h
  | n, .fn _, h => by cases n <;> cases h
  | n, .scr _, h => by cases n <;> cases h
  | n, .exn _ _, h => by cases n <;> cases h
theorem eqL_refl : ∀ {n : Nat} {ds : List D}, flatL n ds = true → eqL ds ds = true
  | n, [], _ => rfl
  | n, d :: ds, h => by
    have h' : (flatD n d && flatL n ds) = true := h
    obtain ⟨h1, h2⟩ := Bool.and_eq_true_iff.mp h'
    rw [eL_cc, eqD_refl h1, eqL_refl h2]
    rfl
end
mutual
theorem flat_le : ∀ {n m : Nat} {d : D}, n ≤ m → flatD n d = true → flatD m d = true
  | n, m, .non, _, _ => by unfold flatD; rfl
  | n, m, .bl _, _, _ => by unfold flatD; rfl
  | n, m, .int _, _, _ => by unfold flatD; rfl
  | n, m, .str s, _, h => by unfold flatD at h ⊢; exact h
  | n + 1, m + 1, .tup ds, hl, h => flatL_le (n := n) (m := m) (ds := ds) (Nat.le_of_succ_le_succ hl) h
  | n + 1, m + 1, .lst ds, hl, h => flatL_le (n := n) (m := m) (ds := ds) (Nat.le_of_succ_le_succ hl) h
  | n + 1, 0, .tup _, hl, _ => by omega
  | n + 1, 0, .lst _, hl, _ => by omega
  | 0, _, .tup _, _, h => by cases h
  | 0, _, .lst _, _, h => by cases h
  | n, _, .un, _, h => by cases n <;> cases h
  | n, _, .dct _, _, h => by cases n <;> cases h
  | n, _, .obj _ _, _, h => by cases n <;> cases h
  | n, _, .ref _, _, h => by cases n <;> cases h
  | n, _, .st _, _, h => by cases n <;> cases h
  | n, _, .fn _, _, h => by cases n <;> cases h
  | n, _, .scr _, _, h => by cases n <;> cases h
  | n, _, .exn _ _, _, h => by cases n <;> cases h
theorem flatL_le : ∀ {n m : Nat} {ds : List D}, n ≤ m → flatL n ds = true → flatL m ds = true
  | n, m, [], _, _ => rfl
  | n, m, d :: ds, hl, h => by
    have h' : (flatD n d && flatL n ds) = true := h
    obtain ⟨h1, h2⟩ := Bool.and_eq_true_iff.mp h'
    show (flatD m d && flatL m ds) = true
    rw [flat_le hl h1, flatL_le hl h2]
    rfl
end
theorem th_un {n : Nat} {d : D} (h : thB n d = true) : isUn d = false := by cases d <;> first | rfl | (cases n <;> cases h)
theorem th_rd {n : Nat} {d : D} (h : thB n d = true) (m : Mu) : rd m d = d := by cases d <;> first | rfl | (cases n <;> cases h)
theorem thL_mem {n : Nat} : ∀ {ds : List D} {d : D}, thL n ds = true → d ∈ ds → thB n d = true
  | e :: ds, d, h, hd => by
    have h' : (thB n e && thL n ds) = true := h
    obtain ⟨h1, h2⟩ := Bool.and_eq_true_iff.mp h'
    rcases List.mem_cons.mp hd with q | q
    · subst q
      exact h1
    · exact thL_mem h2 q
theorem thL_all {n : Nat} : ∀ {ds : List D}, (∀ d ∈ ds, thB n d = true) → thL n ds = true
  | [], _ => rfl
  | d :: ds, h => by
    show (thB n d && thL n ds) = true
    rw [h d (List.mem_cons_self ..), thL_all fun x hx => h x (List.mem_cons_of_mem _ hx)]
    rfl
theorem th_str {n : Nat} {s : List Nat} (h1 : ∀ c ∈ s, c < 1114112) (h2 : s.length ≤ 1000000) : thB n (.str s) = true := by
  unfold thB
  rw [decide_eq_true h2, Bool.and_true, List.all_eq_true]
  exact fun c hc => decide_eq_true (h1 c hc)
theorem th_len {n : Nat} {s : List Nat} (h : thB n (.str s) = true) : s.length ≤ 1000000 := by
  unfold thB at h
  exact of_decide_eq_true (Bool.and_eq_true_iff.mp h).2
theorem big : (16777216 : Nat) = line := rfl
def abc : List Nat := [97, 98, 99, 100, 101, 102, 103, 104, 105, 106, 107, 108, 109, 110, 111, 112, 113, 114, 115, 116, 117, 118, 119, 120, 121, 122]
/-- is a text a key? -/
def keyB (s : List Nat) : Bool := decide (0 < s.length) && decide (s.length ≤ 8) && (s.map fun c => decide (c ∈ abc)).all id
def keyD : D → Bool
  | .str s => keyB s
  | _ => false
theorem keyD_str {d : D} (h : keyD d = true) : ∃ s, d = .str s := by cases d <;> first | exact ⟨_, rfl⟩ | cases h
theorem key_keyB {s : List Nat} (hs : isKey s) : keyB s = true := by
  unfold keyB
  rw [decide_eq_true (show 0 < s.length from hs.1), decide_eq_true hs.2.1, Bool.true_and, Bool.true_and, List.all_map, List.all_eq_true]
  intro c hc
  have h := hs.2.2 c hc
  have : ∀ j : Fin 26, 97 + j.val ∈ abc := by decide
  have e := this ⟨c - 97, by omega⟩
  have e2 : 97 + (c - 97) = c := by omega
  rw [e2] at e
  exact decide_eq_true e
/-- what the constants are -/
structure GvK (gv : Nat → D) : Prop where
  g0 : gv 0 = .str abc
  g1 : gv 1 = .int 8
def valB : D → Bool
  | .int v => decide (v.natAbs < 10 ^ 30)
  | _ => false
def ltD : D → D → Bool
  | .str a, .str b => sltB a b
  | _, _ => false
/-- what behind a word and a key makes an op -/
def restB (w x : D) (rest : List D) : Bool :=
  if eqD w (.str sPut) = true then (match rest with
    | [v] => valB v
    | _ => false)
  else if eqD w (.str sStretch) = true then (match rest with
    | [.non] => true
    | [u] => keyD u && ltD x u
    | _ => false)
  else eqD w (.str sStrike) && rest.isEmpty
/-- is a thing an op? -/
def opB : D → Bool
  | .tup (w :: x :: rest) => keyD x && restB w x rest
  | _ => false
/-- a word is a text, or no text -/
theorem wordOr {n : Nat} {w : D} (h : thB n w = true) : (∃ t, w = .str t) ∨ ∀ s, eqD w (.str s) = false := by
  cases w <;> first
    | exact .inl ⟨_, rfl⟩
    | (cases n <;> cases h; done)
    | exact .inr fun s => by simp
section
variable {T : Tb} {gv : Nat → D} {k : Nat} {m : Mu} {Q : Pq} {X : Px}
theorem bi_listr {a : Nat} {ds : List D} (h : m a = some (.lst ds)) (Q : D → Prop) : biR .list m [.ref a] Q = Q (.lst ds) := by
  show (match rd m (.ref a) with
    | .lst ds => Q (.lst ds)
    | .tup ds => Q (.lst ds)
    | _ => False) = _
  simp [rd, h]
theorem bi_tupr {a : Nat} {ds : List D} (h : m a = some (.lst ds)) (Q : D → Prop) : biR .tuple m [.ref a] Q = Q (.tup ds) := by
  show (match rd m (.ref a) with
    | .lst ds => Q (.tup ds)
    | .tup ds => Q (.tup ds)
    | _ => False) = _
  simp [rd, h]
theorem run_dfc {np nn : Nat} {b : Ss} {vs : List D} {f : Nat} {cm : Bool} (h : T f = some (.df np nn b)) (hl : vs.length = np) (hw : wpSs (run T gv k) gv cm b (startE nn vs) m ⟨fun _ m => Q .non m, Q, fun x _ m => X x m⟩) : run T gv (k + 1) cm f vs m Q X := by
  unfold run
  rw [h]
  exact ⟨hl, hw⟩
theorem sp_iskeyS (h10 : T 10 = some (.df 1 2 b10)) (g : GvK gv) {s : List Nat} (hl : s.length ≤ 1000000) (hq : Q (.bl (keyB s)) m) : run T gv (k + 1) true 10 [.str s] m Q X := by
  refine run_df h10 rfl ?_
  have g1 := g.g1
  have g0 := g.g0
  simp [b10a, b10_1, b10, wpSs, wpS, wpE, wpT, wpEs, wpEo, wpTo, wpIt, wpFs, wpHs, madeR, fmtD, setAll, seqD, bindP, bindPs, wipeE, startE, -Bool.exists_bool, -Bool.forall_bool, g1]
  refine ⟨by show s.length ≤ 16777216; omega, ?_⟩
  unfold keyB at hq
  split
  · rename_i h1
    rw [decide_eq_true h1, Bool.true_and] at hq
    split
    · rename_i h2
      rw [decide_eq_true (show s.length ≤ 8 by omega), Bool.true_and] at hq
      refine ⟨by show s.length ≤ 16777216; omega, ?_⟩
      exact signs_in s (fun c => decide (c ∈ abc)) (fun c => ⟨_, rfl, fun R hR => ⟨_, rfl, rfl, by rw [g0]; exact hR⟩⟩) ⟨_, bl_map (fun c => decide (c ∈ abc)) s, hq⟩
    · rename_i h2
      rw [decide_eq_false (show ¬ s.length ≤ 8 by omega), Bool.false_and] at hq
      exact hq
  · rename_i h1
    rw [decide_eq_false h1, Bool.false_and, Bool.false_and] at hq
    exact hq
theorem sp_iskeyD (h10 : T 10 = some (.df 1 2 b10)) (g : GvK gv) {n : Nat} {d : D} (hd : thB n d = true) (hq : Q (.bl (keyD d)) m) : run T gv (k + 1) true 10 [d] m Q X := by
  cases d with
  | str s => exact sp_iskeyS h10 g (th_len hd) hq
  | non => refine run_df h10 rfl ?_; simp [b10a, b10_1, b10, wpSs, wpS, wpE, wpT, wpEs, wpEo, wpTo, wpIt, wpFs, wpHs, madeR, fmtD, setAll, seqD, bindP, bindPs, wipeE, startE, -Bool.exists_bool, -Bool.forall_bool]; exact hq
  | bl _ => refine run_df h10 rfl ?_; simp [b10a, b10_1, b10, wpSs, wpS, wpE, wpT, wpEs, wpEo, wpTo, wpIt, wpFs, wpHs, madeR, fmtD, setAll, seqD, bindP, bindPs, wipeE, startE, -Bool.exists_bool, -Bool.forall_bool]; exact hq
  | int _ => refine run_df h10 rfl ?_; simp [b10a, b10_1, b10, wpSs, wpS, wpE, wpT, wpEs, wpEo, wpTo, wpIt, wpFs, wpHs, madeR, fmtD, setAll, seqD, bindP, bindPs, wipeE, startE, -Bool.exists_bool, -Bool.forall_bool]; exact hq
  | tup _ => refine run_df h10 rfl ?_; simp [b10a, b10_1, b10, wpSs, wpS, wpE, wpT, wpEs, wpEo, wpTo, wpIt, wpFs, wpHs, madeR, fmtD, setAll, seqD, bindP, bindPs, wipeE, startE, -Bool.exists_bool, -Bool.forall_bool]; exact hq
  | lst _ => refine run_df h10 rfl ?_; simp [b10a, b10_1, b10, wpSs, wpS, wpE, wpT, wpEs, wpEo, wpTo, wpIt, wpFs, wpHs, madeR, fmtD, setAll, seqD, bindP, bindPs, wipeE, startE, -Bool.exists_bool, -Bool.forall_bool]; exact hq
  | _ => cases n <;> cases hd
theorem sp_lkeyS (h : T 2003 = some (.df 1 2 b2003)) {s : List Nat} (hl : s.length ≤ 1000000) (hq : Q (.bl (keyB s)) m) : run T gv (k + 1) true 2003 [.str s] m Q X := by
  refine run_df h rfl ?_
  simp [b2003a, b2003_1, b2003, wpSs, wpS, wpE, wpT, wpEs, wpEo, wpTo, wpIt, wpFs, wpHs, madeR, fmtD, setAll, seqD, bindP, bindPs, wipeE, startE, -Bool.exists_bool, -Bool.forall_bool]
  refine ⟨by show s.length ≤ 16777216; omega, ?_⟩
  unfold keyB at hq
  split
  · rename_i h1
    rw [decide_eq_false (show ¬ 0 < s.length by omega), Bool.false_and, Bool.false_and] at hq
    exact hq
  · rename_i h1
    rw [decide_eq_true (show 0 < s.length by omega), Bool.true_and] at hq
    refine ⟨by show s.length ≤ 16777216; omega, ?_⟩
    split
    · rename_i h2
      rw [decide_eq_false (show ¬ s.length ≤ 8 by omega), Bool.false_and] at hq
      exact hq
    · rename_i h2
      rw [decide_eq_true (show s.length ≤ 8 by omega), Bool.true_and] at hq
      refine ⟨by show s.length ≤ 16777216; omega, ?_⟩
      exact signs_in s (fun c => decide (c ∈ abc)) (fun c => ⟨_, rfl, fun R hR => ⟨_, rfl, rfl, hR⟩⟩) ⟨_, bl_map (fun c => decide (c ∈ abc)) s, hq⟩
theorem sp_lkeyD (h : T 2003 = some (.df 1 2 b2003)) {n : Nat} {d : D} (hd : thB n d = true) (hq : Q (.bl (keyD d)) m) : run T gv (k + 1) true 2003 [d] m Q X := by
  cases d with
  | str s => exact sp_lkeyS h (th_len hd) hq
  | non => refine run_df h rfl ?_; simp [b2003a, b2003_1, b2003, wpSs, wpS, wpE, wpT, wpEs, wpEo, wpTo, wpIt, wpFs, wpHs, madeR, fmtD, setAll, seqD, bindP, bindPs, wipeE, startE, -Bool.exists_bool, -Bool.forall_bool]; exact hq
  | bl _ => refine run_df h rfl ?_; simp [b2003a, b2003_1, b2003, wpSs, wpS, wpE, wpT, wpEs, wpEo, wpTo, wpIt, wpFs, wpHs, madeR, fmtD, setAll, seqD, bindP, bindPs, wipeE, startE, -Bool.exists_bool, -Bool.forall_bool]; exact hq
  | int _ => refine run_df h rfl ?_; simp [b2003a, b2003_1, b2003, wpSs, wpS, wpE, wpT, wpEs, wpEo, wpTo, wpIt, wpFs, wpHs, madeR, fmtD, setAll, seqD, bindP, bindPs, wipeE, startE, -Bool.exists_bool, -Bool.forall_bool]; exact hq
  | tup _ => refine run_df h rfl ?_; simp [b2003a, b2003_1, b2003, wpSs, wpS, wpE, wpT, wpEs, wpEo, wpTo, wpIt, wpFs, wpHs, madeR, fmtD, setAll, seqD, bindP, bindPs, wipeE, startE, -Bool.exists_bool, -Bool.forall_bool]; exact hq
  | lst _ => refine run_df h rfl ?_; simp [b2003a, b2003_1, b2003, wpSs, wpS, wpE, wpT, wpEs, wpEo, wpTo, wpIt, wpFs, wpHs, madeR, fmtD, setAll, seqD, bindP, bindPs, wipeE, startE, -Bool.exists_bool, -Bool.forall_bool]; exact hq
  | _ => cases n <;> cases hd
theorem abs_lt {v : Int} : decide ((if v < 0 then -v else v) < 1000000000000000000000000000000) = decide (v.natAbs < 10 ^ 30) := by
  have e2 : (10 : Nat) ^ 30 = 1000000000000000000000000000000 := by decide
  rw [e2]
  by_cases h : v.natAbs < 1000000000000000000000000000000
  · rw [decide_eq_true h]
    refine decide_eq_true ?_
    split <;> omega
  · rw [decide_eq_false h]
    refine decide_eq_false ?_
    split <;> omega
theorem sp_isvalD (h16 : T 16 = some (.df 1 1 b16)) (g3 : gv 3 = .int 1000000000000000000000000000000) {n : Nat} {d : D} (hd : thB n d = true) (hq : Q (.bl (valB d)) m) : run T gv (k + 1) true 16 [d] m Q X := by
  refine run_df h16 rfl ?_
  cases d with
  | int v =>
    simp [b16, wpSs, wpS, wpE, wpT, wpEs, wpEo, wpTo, wpIt, wpFs, wpHs, madeR, fmtD, setAll, seqD, bindP, bindPs, wipeE, startE, -Bool.exists_bool, -Bool.forall_bool, g3]
    rw [abs_lt]
    exact hq
  | str s => simp [b16, wpSs, wpS, wpE, wpT, wpEs, wpEo, wpTo, wpIt, wpFs, wpHs, madeR, fmtD, setAll, seqD, bindP, bindPs, wipeE, startE, -Bool.exists_bool, -Bool.forall_bool, g3]; exact hq
  | non => simp [b16, wpSs, wpS, wpE, wpT, wpEs, wpEo, wpTo, wpIt, wpFs, wpHs, madeR, fmtD, setAll, seqD, bindP, bindPs, wipeE, startE, -Bool.exists_bool, -Bool.forall_bool, g3]; exact hq
  | bl _ => simp [b16, wpSs, wpS, wpE, wpT, wpEs, wpEo, wpTo, wpIt, wpFs, wpHs, madeR, fmtD, setAll, seqD, bindP, bindPs, wipeE, startE, -Bool.exists_bool, -Bool.forall_bool, g3]; exact hq
  | tup _ => simp [b16, wpSs, wpS, wpE, wpT, wpEs, wpEo, wpTo, wpIt, wpFs, wpHs, madeR, fmtD, setAll, seqD, bindP, bindPs, wipeE, startE, -Bool.exists_bool, -Bool.forall_bool, g3]; exact hq
  | lst _ => simp [b16, wpSs, wpS, wpE, wpT, wpEs, wpEo, wpTo, wpIt, wpFs, wpHs, madeR, fmtD, setAll, seqD, bindP, bindPs, wipeE, startE, -Bool.exists_bool, -Bool.forall_bool, g3]; exact hq
  | _ => cases n <;> cases hd
/-- the ops' own constants -/
structure GvO (gv : Nat → D) : Prop extends GvK gv where
  g3 : gv 3 = .int 1000000000000000000000000000000
structure HOp (T : Tb) : Prop where
  f10 : T 10 = some (.df 1 2 b10)
  f16 : T 16 = some (.df 1 1 b16)
  f17 : T 17 = some (.df 1 4 b17)
theorem sca_or {n : Nat} {w : D} (hw : thB n w = true) (hn : n ≤ 40) {s : List Nat} (hs : s.all (· < 1114112) = true) : scalD w (.str s) = true ∨ (flatD 40 w = true ∧ flatD 40 (.str s) = true) := .inr ⟨flat_le hn (th_flat hw), by unfold flatD; exact hs⟩
theorem sp_isopD (h : HOp T) (g : GvO gv) {n : Nat} (hn : n ≤ 40) {d : D} (hd : thB n d = true) (hq : Q (.bl (opB d)) m) : run T gv (k + 2) true 17 [d] m Q X := by
  refine run_df h.f17 rfl ?_
  have no : ∀ {d : D}, opB d = false → Q (.bl (opB d)) m → Q (.bl false) m := fun e q => by rw [e] at q; exact q
  cases d with
  | non => simp [b17, b17a, wpSs, wpS, wpE, wpT, wpEs, wpEo, wpTo, wpIt, wpFs, wpHs, madeR, fmtD, setAll, seqD, bindP, bindPs, wipeE, startE, -Bool.exists_bool, -Bool.forall_bool]; exact hq
  | bl _ => simp [b17, b17a, wpSs, wpS, wpE, wpT, wpEs, wpEo, wpTo, wpIt, wpFs, wpHs, madeR, fmtD, setAll, seqD, bindP, bindPs, wipeE, startE, -Bool.exists_bool, -Bool.forall_bool]; exact hq
  | int _ => simp [b17, b17a, wpSs, wpS, wpE, wpT, wpEs, wpEo, wpTo, wpIt, wpFs, wpHs, madeR, fmtD, setAll, seqD, bindP, bindPs, wipeE, startE, -Bool.exists_bool, -Bool.forall_bool]; exact hq
  | str _ => simp [b17, b17a, wpSs, wpS, wpE, wpT, wpEs, wpEo, wpTo, wpIt, wpFs, wpHs, madeR, fmtD, setAll, seqD, bindP, bindPs, wipeE, startE, -Bool.exists_bool, -Bool.forall_bool]; exact hq
  | lst _ => simp [b17, b17a, wpSs, wpS, wpE, wpT, wpEs, wpEo, wpTo, wpIt, wpFs, wpHs, madeR, fmtD, setAll, seqD, bindP, bindPs, wipeE, startE, -Bool.exists_bool, -Bool.forall_bool]; exact hq
  | tup ds =>
    cases n with
    | zero => cases hd
    | succ n =>
    have hds : thL n ds = true := hd
    match ds, hds, hq with
    | [], _, hq => simp [b17, b17a, wpSs, wpS, wpE, wpT, wpEs, wpEo, wpTo, wpIt, wpFs, wpHs, madeR, fmtD, setAll, seqD, bindP, bindPs, wipeE, startE, -Bool.exists_bool, -Bool.forall_bool]; exact hq
    | [w], _, hq => simp [b17, b17a, wpSs, wpS, wpE, wpT, wpEs, wpEo, wpTo, wpIt, wpFs, wpHs, madeR, fmtD, setAll, seqD, bindP, bindPs, wipeE, startE, -Bool.exists_bool, -Bool.forall_bool]; exact hq
    | w :: x :: rest, hds, hq =>
      have hw := thL_mem hds (List.mem_cons_self ..)
      have hx := thL_mem hds (List.mem_cons_of_mem _ (List.mem_cons_self ..))
      have hr : ∀ e ∈ rest, thB n e = true := fun e he => thL_mem hds (List.mem_cons_of_mem _ (List.mem_cons_of_mem _ he))
      simp [b17, b17a, wpSs, wpS, wpE, wpT, wpEs, wpEo, wpTo, wpIt, wpFs, wpHs, madeR, fmtD, setAll, seqD, bindP, bindPs, wipeE, startE, -Bool.exists_bool, -Bool.forall_bool]
      rw [if_neg (by omega)]
      refine sp_iskeyD h.f10 g.toGvK hx ⟨_, rfl, ?_⟩
      have hq' : Q (.bl (keyD x && restB w x rest)) m := hq
      cases e : keyD x with
      | false =>
        rw [e] at hq'
        simpa using hq'
      | true =>
        rw [e, Bool.true_and] at hq'
        obtain ⟨s, rfl⟩ := keyD_str e
        simp [b17_1, b17_2, wpSs, wpS, wpE, wpT, wpEs, wpEo, wpTo, wpIt, wpFs, wpHs, madeR, fmtD, setAll, seqD, bindP, bindPs, wipeE, startE, -Bool.exists_bool, -Bool.forall_bool, th_un hw, th_rd hw]
        refine ⟨sca_or hw (by omega) (s := [112, 117, 116]) (by decide), ?_⟩
        unfold restB at hq'
        have e1 : eqD w (.str sPut) = eqD w (.str [112, 117, 116]) := rfl
        rw [e1] at hq'
        cases hp : eqD w (.str [112, 117, 116]) with
        | true =>
          rw [hp, if_pos rfl] at hq'
          simp [b17c, wpSs, wpS, wpE, wpT, wpEs, wpEo, wpTo, wpIt, wpFs, wpHs, madeR, fmtD, setAll, seqD, bindP, bindPs, wipeE, startE, -Bool.exists_bool, -Bool.forall_bool]
          match rest, hr, hq' with
          | [], _, hq' => simpa using hq'
          | [v], hr, hq' =>
            simp
            exact sp_isvalD h.f16 g.g3 (hr v (List.mem_cons_self ..)) hq'
          | _ :: _ :: t, _, hq' =>
            simp
            rw [if_neg (by omega)]
            have e : (((t.length : Int) + 1 + 1 == 1)) = false := beq_false_of_ne (by omega)
            rw [e]
            exact hq'
        | false =>
          rw [hp, if_neg (by decide)] at hq'
          simp [b17_3, wpSs, wpS, wpE, wpT, wpEs, wpEo, wpTo, wpIt, wpFs, wpHs, madeR, fmtD, setAll, seqD, bindP, bindPs, wipeE, startE, -Bool.exists_bool, -Bool.forall_bool, th_un hw, th_rd hw]
          refine ⟨sca_or hw (by omega) (s := [115, 116, 114, 101, 116, 99, 104]) (by decide), ?_⟩
          have e2 : eqD w (.str sStretch) = eqD w (.str [115, 116, 114, 101, 116, 99, 104]) := rfl
          rw [e2] at hq'
          cases hp2 : eqD w (.str [115, 116, 114, 101, 116, 99, 104]) with
          | true =>
            rw [hp2, if_pos rfl] at hq'
            simp [b17e, wpSs, wpS, wpE, wpT, wpEs, wpEo, wpTo, wpIt, wpFs, wpHs, madeR, fmtD, setAll, seqD, bindP, bindPs, wipeE, startE, -Bool.exists_bool, -Bool.forall_bool]
            match rest, hr, hq' with
            | [], _, hq' => simpa using hq'
            | a :: b :: t, _, hq' =>
              simp
              rw [if_neg (by omega)]
              have e : (((t.length : Int) + 1 + 1 == 1)) = false := beq_false_of_ne (by omega)
              rw [e]
              cases a <;> exact hq'
            | [u], hr, hq' =>
              have hu := hr u (List.mem_cons_self ..)
              simp [-Bool.exists_bool, -Bool.forall_bool]
              cases u with
              | non => simpa using hq'
              | str u =>
                simp [-Bool.exists_bool, -Bool.forall_bool]
                refine sp_iskeyS (k := k) h.f10 g.toGvK (th_len hu) ⟨_, rfl, ?_⟩
                have hq3 : Q (.bl (keyB u && sltB s u)) m := hq'
                cases ek : keyB u with
                | true => rw [ek] at hq3; simpa using hq3
                | false => rw [ek] at hq3; simpa using hq3
              | bl b => simp [-Bool.exists_bool, -Bool.forall_bool]; exact sp_iskeyD (k := k) h.f10 g.toGvK hu ⟨_, rfl, by simpa [keyD] using hq'⟩
              | int b => simp [-Bool.exists_bool, -Bool.forall_bool]; exact sp_iskeyD (k := k) h.f10 g.toGvK hu ⟨_, rfl, by simpa [keyD] using hq'⟩
              | tup b => simp [-Bool.exists_bool, -Bool.forall_bool]; exact sp_iskeyD (k := k) h.f10 g.toGvK hu ⟨_, rfl, by simpa [keyD] using hq'⟩
              | lst b => simp [-Bool.exists_bool, -Bool.forall_bool]; exact sp_iskeyD (k := k) h.f10 g.toGvK hu ⟨_, rfl, by simpa [keyD] using hq'⟩
              | _ => cases n <;> cases hu
          | false =>
            rw [hp2, if_neg (by decide)] at hq'
            simp [b17_4, wpSs, wpS, wpE, wpT, wpEs, wpEo, wpTo, wpIt, wpFs, wpHs, madeR, fmtD, setAll, seqD, bindP, bindPs, wipeE, startE, -Bool.exists_bool, -Bool.forall_bool, th_un hw, th_rd hw]
            refine ⟨sca_or hw (by omega) (s := [115, 116, 114, 105, 107, 101]) (by decide), ?_⟩
            have e3 : eqD w (.str sStrike) = eqD w (.str [115, 116, 114, 105, 107, 101]) := rfl
            rw [e3] at hq'
            cases hp3 : eqD w (.str [115, 116, 114, 105, 107, 101]) with
            | false => rw [hp3] at hq'; simpa using hq'
            | true =>
              rw [hp3, Bool.true_and] at hq'
              simp
              cases rest with
              | nil => exact ⟨⟨rfl, rfl⟩, by simpa using hq'⟩
              | cons r rs =>
                refine ⟨⟨flatL_le (n := n) (m := 39) (Nat.le_of_succ_le_succ hn) (thL_flat (thL_all hr)), rfl⟩, ?_⟩
                simpa using hq'
  | _ => cases n <;> cases hd
/-! ### drawn values and ops -/
structure HDr (T : Tb) : Prop where
  fD : T 1001 = some .draw
  f1003 : T 1003 = some (.df 1 2 b1003)
  f2007 : T 2007 = some (.df 1 1 b2007)
  f2008 : T 2008 = some (.df 1 4 b2008)
theorem sp_value (h : HDr T) {a : Nat} (hq : ∀ v : Int, v.natAbs < 10 ^ 30 → Q (.int v) m) : run T gv (k + 2) true 2007 [.st a] m Q X := by
  refine run_df h.f2007 rfl ?_
  simp [b2007a, b2007_1, b2007, wpSs, wpS, wpE, wpT, wpEs, wpEo, wpTo, wpIt, wpFs, wpHs, madeR, fmtD, setAll, seqD, bindP, bindPs, wipeE, startE, -Bool.exists_bool, -Bool.forall_bool]
  have e2 : (10 : Nat) ^ 30 = 1000000000000000000000000000000 := by decide
  rw [e2] at hq
  refine run_draw h.fD (by decide) (by decide +kernel) fun r r0 r1 => ?_
  simp [-Bool.exists_bool, -Bool.forall_bool]
  split
  · refine run_draw h.fD (by decide) (by decide +kernel) fun r r0 r1 => ?_
    simp [-Bool.exists_bool, -Bool.forall_bool]
    exact hq _ (by omega)
  · refine run_draw h.fD (by decide) (by decide +kernel) fun r r0 r1 => ?_
    simp [-Bool.exists_bool, -Bool.forall_bool]
    exact hq _ (by omega)
theorem sp_op (h : HDr T) {a : Nat} (hq : ∀ o, opGood o → Q (opD o) m) : run T gv (k + 3) true 2008 [.st a] m Q X := by
  refine run_df h.f2008 rfl ?_
  simp [b2008, wpSs, wpS, wpE, wpT, wpEs, wpEo, wpTo, wpIt, wpFs, wpHs, madeR, fmtD, setAll, seqD, bindP, bindPs, wipeE, startE, -Bool.exists_bool, -Bool.forall_bool]
  refine run_draw h.fD (by decide) (by decide +kernel) fun r r0 r1 => ?_
  simp [b2008_1, wpSs, wpS, wpE, wpT, wpEs, wpEo, wpTo, wpIt, wpFs, wpHs, madeR, fmtD, setAll, seqD, bindP, bindPs, wipeE, startE, -Bool.exists_bool, -Bool.forall_bool]
  refine sp_key h.f1003 h.fD fun s hs => ?_
  simp [b2008_2, b2008a, wpSs, wpS, wpE, wpT, wpEs, wpEo, wpTo, wpIt, wpFs, wpHs, madeR, fmtD, setAll, seqD, bindP, bindPs, wipeE, startE, -Bool.exists_bool, -Bool.forall_bool]
  split
  · refine sp_value h fun v hv => ?_
    exact hq (.put s v) ⟨hs, hv⟩
  · simp [b2008_3, b2008c, wpSs, wpS, wpE, wpT, wpEs, wpEo, wpTo, wpIt, wpFs, wpHs, madeR, fmtD, setAll, seqD, bindP, bindPs, wipeE, startE, -Bool.exists_bool, -Bool.forall_bool]
    split
    · exact hq (.strike s) (hs)
    · simp [b2008_4, wpSs, wpS, wpE, wpT, wpEs, wpEo, wpTo, wpIt, wpFs, wpHs, madeR, fmtD, setAll, seqD, bindP, bindPs, wipeE, startE, -Bool.exists_bool, -Bool.forall_bool]
      refine sp_key h.f1003 h.fD fun t ht => ?_
      simp [b2008_5, b2008e, b2008_6, wpSs, wpS, wpE, wpT, wpEs, wpEo, wpTo, wpIt, wpFs, wpHs, madeR, fmtD, setAll, seqD, bindP, bindPs, wipeE, startE, -Bool.exists_bool, -Bool.forall_bool]
      split
      · exact hq (.stretch s none) ⟨hs, fun _ z => by cases z⟩
      · rename_i hne
        refine run_draw h.fD (by decide) (by decide +kernel) fun r r0 r1 => ?_
        simp [-Bool.exists_bool, -Bool.forall_bool]
        split
        · exact hq (.stretch s none) ⟨hs, fun _ z => by cases z⟩
        · refine hq (.stretch (if sltB t s = true then t else s) (some (if sltB s t = true then t else s))) ⟨?_, fun u z => ⟨?_, ?_⟩⟩
          · split
            · exact ht
            · exact hs
          · cases z
            split
            · exact ht
            · exact hs
          · cases z
            cases e : sltB t s with
            | true => simp [slt_asym e, e]
            | false =>
              cases e2 : sltB s t with
              | true => simp [e2]
              | false => exact absurd (slt_conn e e2) (by simpa using hne)
/-- an op is a thing, and an op -/
theorem op_th {o : Op} (ho : opGood o) {n : Nat} : thB (n + 1) (opD o) = true := by
  have ks : ∀ {s : List Nat}, isKey s → thB n (.str s) = true := fun {s} hs => th_str (key_ok hs) (by have := hs.2.1; omega)
  have ws : ∀ {s : List Nat}, s = sPut ∨ s = sStrike ∨ s = sStretch → thB n (.str s) = true := fun {s} hs => by
    rcases hs with rfl | rfl | rfl <;> exact th_str (by decide) (by decide)
  cases o with
  | put s v =>
    show (thB n (.str sPut) && (thB n (.str s) && (thB n (.int v) && true))) = true
    rw [ws (.inl rfl), ks ho.1]
    cases n <;> rfl
  | strike s =>
    show (thB n (.str sStrike) && (thB n (.str s) && true)) = true
    rw [ws (.inr (.inl rfl)), ks ho]
    rfl
  | stretch lo hi =>
    show (thB n (.str sStretch) && (thB n (.str lo) && (thB n (oD hi) && true))) = true
    rw [ws (.inr (.inr rfl)), ks ho.1]
    cases hi with
    | none => cases n <;> rfl
    | some u => rw [show oD (some u) = .str u from rfl, ks (ho.2 u rfl).1]; rfl
theorem op_opB {o : Op} (ho : opGood o) : opB (opD o) = true := by
  cases o with
  | put s v =>
    show (keyB s && decide (v.natAbs < 10 ^ 30)) = true
    rw [key_keyB ho.1, decide_eq_true ho.2]
    rfl
  | strike s =>
    show (keyB s && _) = true
    rw [key_keyB ho]
    rfl
  | stretch lo hi =>
    cases hi with
    | none =>
      show (keyB lo && _) = true
      rw [key_keyB ho.1]
      rfl
    | some u =>
      obtain ⟨h1, h2⟩ := ho.2 u rfl
      show (keyB lo && (keyB u && sltB lo u)) = true
      rw [key_keyB ho.1, key_keyB h1, h2]
      rfl
/-! ### signs, bent texts -/
def signs : List Nat := [32, 33, 34, 35, 36, 38, 39, 40, 41, 42, 43, 44, 45, 46, 47, 48, 49, 50, 51, 52, 53, 54, 55, 56, 57, 58, 59, 60, 61, 62, 63, 64, 65, 66, 67, 68, 69, 70, 71, 72, 73, 74, 75, 76, 77, 78, 79, 80,
  81, 82, 83, 84, 85, 86, 87, 88, 89, 90, 91, 92, 93, 94, 95, 96, 97, 98, 99, 100, 101, 102, 103, 104, 105, 106, 107, 108, 109, 110, 111, 112, 113, 114, 115, 116, 117, 118, 119, 120, 121, 122, 123, 124, 125, 126]
theorem signs_b : ∀ c ∈ signs, 32 ≤ c ∧ c ≤ 126 := by decide
theorem sp_signs (h : T 2000 = some (.df 0 1 b2000)) (hq : Q (.str signs) m) : run T gv (k + 1) true 2000 [] m Q X := by
  refine run_df h rfl ?_
  simp [b2000_1, b2000, wpSs, wpS, wpE, wpT, wpEs, wpEo, wpTo, wpIt, wpFs, wpHs, madeR, fmtD, setAll, seqD, bindP, bindPs, wipeE, startE, -Bool.exists_bool, -Bool.forall_bool]
  exact ⟨by decide, hq⟩
/-- a text bent once: of what signs it is, how long at most -/
theorem sp_bent (hD : T 1001 = some .draw) (h0 : T 2000 = some (.df 0 1 b2000)) (h1 : T 2001 = some (.df 2 5 b2001)) {a : Nat} {s : List Nat} (hl : s.length ≤ 100000)
    (hq : ∀ s' : List Nat, s'.length ≤ s.length + 1 → (∀ c ∈ s', c ∈ s ∨ c ∈ signs) → Q (.str s') m) : run T gv (k + 2) true 2001 [.st a, .str s] m Q X := by
  refine run_df h1 rfl ?_
  have bg := big
  simp [b2001, wpSs, wpS, wpE, wpT, wpEs, wpEo, wpTo, wpIt, wpFs, wpHs, madeR, fmtD, setAll, seqD, bindP, bindPs, wipeE, startE, -Bool.exists_bool, -Bool.forall_bool]
  refine ⟨by omega, ?_⟩
  refine run_draw hD (by omega) (Int.le_trans (show ((s.length : Int) + 1) ≤ 100001 by omega) (by decide +kernel)) fun at_ a0 a1 => ?_
  simp [b2001_1, wpSs, wpS, wpE, wpT, wpEs, wpEo, wpTo, wpIt, wpFs, wpHs, madeR, fmtD, setAll, seqD, bindP, bindPs, wipeE, startE, -Bool.exists_bool, -Bool.forall_bool]
  refine sp_signs h0 ?_
  refine run_draw hD (by decide) (by decide +kernel) fun r r0 r1 => ?_
  obtain ⟨c, c1, c2, _⟩ := atI_pos (s := signs) (r := r) r0 (by show r < 94; omega)
  refine ⟨c, c1, by decide, ?_⟩
  simp [b2001_2, wpSs, wpS, wpE, wpT, wpEs, wpEo, wpTo, wpIt, wpFs, wpHs, madeR, fmtD, setAll, seqD, bindP, bindPs, wipeE, startE, -Bool.exists_bool, -Bool.forall_bool]
  refine run_draw hD (by decide) (by decide +kernel) fun w w0 w1 => ?_
  have k1 : cutG s none (some at_) = s.take at_.toNat := cut_take s a0
  have k2 : cutG s (some at_) none = s.drop at_.toNat := cut_drop s a0
  have k3 : cutG s (some (at_ + 1)) none = s.drop (at_.toNat + 1) := by rw [cut_drop s (by omega)]; congr 1; omega
  have t1 := List.length_take (i := at_.toNat) (l := s)
  have t2 := List.length_drop (i := at_.toNat) (l := s)
  have t3 := List.length_drop (i := at_.toNat + 1) (l := s)
  simp [b2001_3, b2001a, b2001_4, b2001c, b2001_5, wpSs, wpS, wpE, wpT, wpEs, wpEo, wpTo, wpIt, wpFs, wpHs, madeR, fmtD, setAll, seqD, bindP, bindPs, wipeE, startE, -Bool.exists_bool, -Bool.forall_bool, slc_s, k1, k2, k3]
  have m1 : ∀ x ∈ s.take at_.toNat, x ∈ s := fun x hx => List.mem_of_mem_take hx
  have m2 : ∀ x ∈ s.drop at_.toNat, x ∈ s := fun x hx => List.mem_of_mem_drop hx
  have m3 : ∀ x ∈ s.drop (at_.toNat + 1), x ∈ s := fun x hx => List.mem_of_mem_drop hx
  split
  · refine ⟨by omega, by omega, by omega, by omega, hq _ (by simp; omega) fun x hx => ?_⟩
    rcases List.mem_append.mp hx with hx | hx
    · exact .inl (m1 x hx)
    · rcases List.mem_cons.mp hx with hx | hx
      · rw [hx]; exact .inr c2
      · exact .inl (m2 x hx)
  · split
    · refine ⟨by omega, by omega, hq _ (by simp; omega) fun x hx => ?_⟩
      rcases List.mem_append.mp hx with hx | hx
      · exact .inl (m1 x hx)
      · exact .inl (m3 x hx)
    · refine ⟨by omega, by omega, by omega, by omega, hq _ (by simp; omega) fun x hx => ?_⟩
      rcases List.mem_append.mp hx with hx | hx
      · exact .inl (m1 x hx)
      · rcases List.mem_cons.mp hx with hx | hx
        · rw [hx]; exact .inr c2
        · exact .inl (m3 x hx)
/-- a refusal of one of the eleven classes -/
theorem sp_alone (h : T 2010 = some (.df 1 2 b2010)) {c : Nat} {fs : List (Nat × D)} (h1 : 1 ≤ c) (h2 : c ≤ 11) (hq : Q (.bl true) m) : run T gv (k + 1) false 2010 [.exn c fs] m Q X := by
  refine run_dfc h rfl ?_
  have : c = 1 ∨ c = 2 ∨ c = 3 ∨ c = 4 ∨ c = 5 ∨ c = 6 ∨ c = 7 ∨ c = 8 ∨ c = 9 ∨ c = 10 ∨ c = 11 := by omega
  have l12 : (11 : Nat) ≤ line := by decide
  have l8 : (8 : Nat) ≤ line := by decide
  rcases this with rfl | rfl | rfl | rfl | rfl | rfl | rfl | rfl | rfl | rfl | rfl <;>
    (simp [b2010_3, b2010_2, b2010_1, b2010, wpSs, wpS, wpE, wpT, wpEs, wpEo, wpTo, wpIt, wpFs, wpHs, madeR, fmtD, setAll, seqD, bindP, bindPs, wipeE, startE, -Bool.exists_bool, -Bool.forall_bool, subX, blsD, l12, l8]; exact hq)
end
end Pk

/-! Plain work: sieves, runs. -/
namespace Pk
def b11 : Ss := .cons (.ret (.op2 .add (.var 0) (.str [97]))) .nil
def b40a : Ss := .cons (.asg (.nm 1) (.op2 .add (.op2 .add (.op2 .mul (.int 27) (.var 1)) (.sm .index (.glob 0) (.var 2))) (.int 1))) .nil
def b40_2 : Ss := .cons (.ret (.var 1)) .nil
def b40_1 : Ss := .cons (.forr (.nm 2) (.seq (.var 0)) b40a) b40_2
def b40 : Ss := .cons (.asg (.nm 1) (.int 0)) b40_1
def b41_1 : Ss := .cons (.ret (.comp [2] (.op2 .mod (.var 1) (.var 2)) (.nm 2) (.seq (.glob 7)) .none)) .nil
def b41 : Ss := .cons (.asg (.nm 1) (.call 40 (.cons (.var 0) .nil))) b41_1
def b42b : Ss := .cons (.aug 1 .bor (.op2 .shl (.int 1) (.var 3))) .nil
def b42a : Ss := .cons (.forr (.nm 3) (.seq (.call 41 (.cons (.var 2) .nil))) b42b) .nil
def b42_2 : Ss := .cons (.ret (.var 1)) .nil
def b42_1 : Ss := .cons (.forr (.nm 2) (.seq (.var 0)) b42a) b42_2
def b42 : Ss := .cons (.asg (.nm 1) (.int 0)) b42_1
def b43 : Ss := .cons (.ret (.bi .all (.cons (.comp [2] (.cmp .eq (.op2 .band (.op2 .shr (.var 0) (.var 2)) (.int 1)) (.int 1)) (.nm 2) (.seq (.call 41 (.cons (.var 1) .nil))) .none) .nil))) .nil
def i47 : List (Nat × E) := [(50, .var 1), (51, .bi .tuple (.cons (.comp [4, 5, 6] (.tup (.cons (.var 4) (.cons (.var 5) (.cons (.var 6) .nil)))) (.tp (.cons (.nm 4) (.cons (.nm 5) (.cons (.nm 6) .nil)))) (.seq (.var 2)) .none) .nil)), (52, .bi
  .tuple (.cons (.comp [7, 8, 5] (.tup (.cons (.var 7) (.cons (.var 8) (.cons (.var 5) .nil)))) (.tp (.cons (.nm 7) (.cons (.nm 8) (.cons (.nm 5) .nil)))) (.seq (.var 3)) .none) .nil)), (53, .call 42 (.cons (.comp [9]
  (.ix (.var 9) (.int 0)) (.nm 9) (.seq (.var 2)) .none) .nil))]
def b51_1 : Ss := .cons (.ret (.call 15 (.cons (.op2 .add (.var 1) (.comp [5, 6, 3] (.tup (.cons (.var 5) (.cons (.var 6) .nil))) (.tp (.cons (.nm 5) (.cons (.nm 6) (.cons (.nm 3) .nil)))) (.seq (.fld (.var 0) 52)) .none)) .nil))) .nil
def b51 : Ss := .cons (.asgc 1 (.comp [2, 3, 4] (.tup (.cons (.var 2) (.cons (.call 11 (.cons (.var 2) .nil)) .nil))) (.tp (.cons (.nm 2) (.cons (.nm 3) (.cons (.nm 4) .nil)))) (.seq (.fld (.var 0) 51)) .none)) b51_1
def b52_1 : Ss := .cons (.ret (.op2 .add (.var 2) (.comp [6, 7, 4] (.tup (.cons (.var 4) (.cons (.non) .nil))) (.tp (.cons (.nm 6) (.cons (.nm 7) (.cons (.nm 4) .nil)))) (.seq (.fld (.var 0) 52)) (.some (.call 13 (.cons (.var 1) (.cons
  (.var 6) (.cons (.var 7) .nil)))))))) .nil
def b52 : Ss := .cons (.asgc 2 (.comp [3, 4, 5] (.tup (.cons (.var 4) (.cons (.var 5) .nil))) (.tp (.cons (.nm 3) (.cons (.nm 4) (.cons (.nm 5) .nil)))) (.seq (.fld (.var 0) 51)) (.some (.cmp .eq (.var 3) (.var 1))))) b52_1
def b53b : Ss := .cons (.asg (.nm 3) (.tup (.cons (.var 4) (.cons (.var 5) .nil)))) .nil
def b53a : Ss := .cons (.ite (.and (.or (.cmp .is (.var 2) (.non)) (.cmp .le (.var 4) (.var 2))) (.or (.cmp .is (.var 3) (.non)) (.cmp .gt (.var 4) (.ix (.var 3) (.int 0))))) b53b .nil) .nil
def b53_2 : Ss := .cons (.ret (.var 3)) .nil
def b53_1 : Ss := .cons (.forr (.tp (.cons (.nm 4) (.cons (.nm 5) .nil))) (.seq (.meth 52 200 (.var 0) (.cons (.var 1) .nil) [])) b53a) b53_2
def b53 : Ss := .cons (.asg (.nm 3) (.non)) b53_1
def b54a : Ss := .cons (.ret (.bl true)) .nil
def b54_2 : Ss := .cons (.ret (.and (.call 13 (.cons (.var 1) (.cons (.var 2) (.cons (.var 3) .nil)))) (.call 43 (.cons (.fld (.var 0) 53) (.cons (.var 1) .nil))))) .nil
def b54_1 : Ss := .cons (.asg (.tp (.cons (.nm 2) (.cons (.nm 3) .nil))) (.meth 51 200 (.var 0) .nil [])) b54_2
def b54 : Ss := .cons (.ite (.bi .any (.cons (.comp [2, 3, 4] (.call 13 (.cons (.var 1) (.cons (.var 2) (.cons (.var 3) .nil)))) (.tp (.cons (.nm 2) (.cons (.nm 3) (.cons (.nm 4) .nil)))) (.seq (.fld (.var 0) 52)) .none) .nil)) b54a
  .nil) b54_1
/-! ### what is reckoned -/
def numN (s : List Nat) : Nat := s.foldl (fun n c => 27 * n + (c - 97) + 1) 0
def bitsN (s : List Nat) : List Nat := [numN s % 61, numN s % 53, numN s % 47]
def orB (bs : List Nat) : Nat := bs.foldl (fun a b => a ||| 2 ^ b) 0
def keyBits (ks : List (List Nat)) : List Nat := ks.flatMap bitsN
def iD (n : Nat) : D := .int (n : Nat)
theorem orB_snoc (bs : List Nat) (b : Nat) : orB (bs ++ [b]) = orB bs ||| 2 ^ b := by
  unfold orB
  rw [List.foldl_append]
  rfl
theorem orB_bit (bs : List Nat) (i : Nat) : (orB bs).testBit i = decide (i ∈ bs) := by
  have h : ∀ (bs : List Nat) (a : Nat), (bs.foldl (fun a b => a ||| 2 ^ b) a).testBit i = (a.testBit i || decide (i ∈ bs)) := by
    intro bs
    induction bs with
    | nil => intro a; simp
    | cons b r ih =>
      intro a
      rw [List.foldl_cons, ih, Nat.testBit_or, Nat.testBit_two_pow]
      simp only [List.mem_cons, Bool.decide_or, Bool.or_assoc]
      congr 2
      exact decide_eq_decide.mpr ⟨fun h => h.symm, fun h => h.symm⟩
  unfold orB
  rw [h]
  simp
theorem orB_eq {bs cs : List Nat} (h : ∀ i, i ∈ bs ↔ i ∈ cs) : orB bs = orB cs := by
  refine Nat.eq_of_testBit_eq fun i => ?_
  rw [orB_bit, orB_bit]
  exact decide_eq_decide.mpr (h i)
theorem orB_lt {bs : List Nat} {n : Nat} (h : ∀ b ∈ bs, b < n) : orB bs < 2 ^ n := by
  refine Nat.lt_pow_two_of_testBit _ fun i hi => ?_
  rw [orB_bit, decide_eq_false_iff_not]
  intro hm
  have := h i hm
  omega
structure HSv (T : Tb) (gv : Nat → D) : Prop where
  f40 : T 40 = some (.df 1 3 b40)
  f41 : T 41 = some (.df 1 3 b41)
  f42 : T 42 = some (.df 1 4 b42)
  f43 : T 43 = some (.df 2 3 b43)
  g0 : gv 0 = .str abc
  g7 : gv 7 = .tup [.int 61, .int 53, .int 47]
section
variable {T : Tb} {gv : Nat → D} {k : Nat} {m : Mu} {Q : Pq} {X : Px}
theorem idx_abc (c : Nat) (h : 97 ≤ c ∧ c ≤ 122) : PySem.Builtin.Str.occurrences ⟨abc.toArray⟩ ⟨[c].toArray⟩ 0 abc.length 1 = [c - 97] := by
  have : ∀ j : Fin 26, PySem.Builtin.Str.occurrences ⟨abc.toArray⟩ ⟨[97 + j.val].toArray⟩ 0 abc.length 1 = [j.val] := by decide +kernel
  have e := this ⟨c - 97, by omega⟩
  have e2 : 97 + (c - 97) = c := by omega
  rw [e2] at e
  exact e
theorem num_take {s : List Nat} {j c : Nat} (h : s[j]? = some c) : numN (s.take (j + 1)) = 27 * numN (s.take j) + (c - 97) + 1 := by
  rw [take_snoc h]
  unfold numN
  rw [List.foldl_append]
  rfl
theorem sp_num (h : HSv T gv) {s : List Nat} (hs : isKey s) (hq : Q (iD (numN s)) m) : run T gv (k + 1) true 40 [.str s] m Q X := by
  refine run_df h.f40 rfl ?_
  have g0 := h.g0
  simp [b40a, b40_2, b40_1, b40, wpSs, wpS, wpE, wpT, wpEs, wpEo, wpTo, wpIt, wpFs, wpHs, madeR, fmtD, setAll, seqD, bindP, bindPs, wipeE, startE, -Bool.exists_bool, -Bool.forall_bool, g0]
  refine ⟨by show s.length ≤ 16777216; have := hs.2.1; omega, ?_⟩
  refine for_mp (fun c => D.str [c]) (fun i σ m' => m' = m ∧ ∃ x, σ = [.str s, iD (numN (s.take i)), x]) (fun _ _ _ _ => gd_nilS _) s ⟨rfl, _, rfl⟩ (fun j c σ m' hj hi => ?_) fun σ m' hi => ?_
  · obtain ⟨rfl, x, rfl⟩ := hi
    have hc := hs.2.2 c (List.mem_of_getElem? hj)
    refine ⟨_, rfl, fun nx hnx => ?_⟩
    simp [iD]
    refine ⟨_, [], idx_abc c hc, hnx _ _ ⟨rfl, .str [c], ?_⟩⟩
    rw [num_take hj]
    simp [iD]
  · obtain ⟨rfl, x, rfl⟩ := hi
    rw [List.take_of_length_le (Nat.le_refl _)]
    exact ⟨_, rfl, rfl, hq⟩
theorem sp_bits (h : HSv T gv) {s : List Nat} (hs : isKey s) (hq : Q (.lst ((bitsN s).map iD)) m) : run T gv (k + 2) true 41 [.str s] m Q X := by
  refine run_df h.f41 rfl ?_
  have g7 := h.g7
  simp [b41_1, b41, wpSs, wpS, wpE, wpT, wpEs, wpEo, wpTo, wpIt, wpFs, wpHs, madeR, fmtD, setAll, seqD, bindP, bindPs, wipeE, startE, -Bool.exists_bool, -Bool.forall_bool, g7]
  refine sp_num h hs ?_
  simp [compL, gd_nilS, bindP, iD]
  exact hq
theorem bits_lt {s : List Nat} {b : Nat} (h : b ∈ bitsN s) : b < 61 := by
  simp [bitsN] at h
  omega
theorem or_pow (a b : Nat) : PySem.Builtin.bitOr (a : Int) (2 ^ b) = ((a ||| 2 ^ b : Nat) : Int) := by
  have e : (2 ^ b : Int) = ((2 ^ b : Nat) : Int) := by simp
  rw [e, Bits.bitOr_pp (Int.natCast_nonneg _) (Int.natCast_nonneg _)]
  rfl
theorem sp_sieve (h : HSv T gv) {ks : List (List Nat)} (hk : ∀ s ∈ ks, isKey s) {d : D} (hd : d = .lst (ks.map .str) ∨ d = .tup (ks.map .str)) (hq : Q (iD (orB (keyBits ks))) m) : run T gv (k + 3) true 42 [d] m Q X := by
  have hu : isUn d = false := by rcases hd with rfl | rfl <;> rfl
  refine run_df h.f42 rfl ?_
  simp [b42, b42_1, wpSs, wpS, wpE, wpT, wpEs, wpEo, wpTo, wpIt, wpFs, wpHs, madeR, fmtD, setAll, seqD, bindP, bindPs, wipeE, startE, -Bool.exists_bool, -Bool.forall_bool, hu]
  have go : ∀ K : Kt, (∀ σ m', m' = m → (∃ x y, σ = [d, iD (orB (keyBits ks)), x, y]) → K.nx σ m') → forL [] (.nm 2) (wpSs (run T gv (k + 2)) gv true b42a) (ks.map .str) [d, .int 0, .un, .un] m K := by
    intro K hK
    refine for_mp D.str (fun i σ m' => m' = m ∧ ∃ x y, σ = [d, iD (orB (keyBits (ks.take i))), x, y]) (fun _ _ _ _ => gd_nilS _) ks ⟨rfl, _, _, rfl⟩ (fun j s σ m' hj hi => ?_) fun σ m' hi => ?_
    · obtain ⟨rfl, x, y, rfl⟩ := hi
      have hs := hk s (List.mem_of_getElem? hj)
      refine ⟨_, rfl, fun nx hnx => ?_⟩
      simp [b42a, wpSs, wpS, wpE, wpT, wpEs, wpEo, wpTo, wpIt, wpFs, wpHs, madeR, fmtD, setAll, seqD, bindP, bindPs, wipeE, startE, -Bool.exists_bool, -Bool.forall_bool]
      refine sp_bits (k := k) h hs ?_
      refine for_mp iD (fun i σ m2 => m2 = m' ∧ ∃ y, σ = [d, iD (orB (keyBits (ks.take j) ++ (bitsN s).take i)), .str s, y]) (fun _ _ _ _ => gd_nilS _) (bitsN s) ⟨rfl, y, by simp⟩ (fun i b σ m2 hb hi => ?_) fun σ m2 hi => ?_
      · obtain ⟨rfl, y, rfl⟩ := hi
        have hb1 := bits_lt (List.mem_of_getElem? hb)
        refine ⟨_, rfl, fun nx2 hnx2 => ?_⟩
        simp [b42b, wpSs, wpS, wpE, wpT, wpEs, wpEo, wpTo, wpIt, wpFs, wpHs, madeR, fmtD, setAll, seqD, bindP, bindPs, wipeE, startE, -Bool.exists_bool, -Bool.forall_bool, iD]
        refine ⟨by omega, hnx2 _ _ ⟨rfl, iD b, ?_⟩⟩
        rw [take_snoc hb, ← List.append_assoc, orB_snoc, or_pow]
        rfl
      · obtain ⟨rfl, y, rfl⟩ := hi
        refine hnx _ _ ⟨rfl, .str s, y, ?_⟩
        rw [List.take_of_length_le (Nat.le_refl _), take_snoc hj]
        unfold keyBits
        rw [List.flatMap_append]
        simp
    · obtain ⟨rfl, x, y, rfl⟩ := hi
      rw [List.take_of_length_le (Nat.le_refl _)]
      exact hK _ _ rfl ⟨x, y, rfl⟩
  rcases hd with rfl | rfl
  · refine go _ fun σ m' e1 e2 => ?_
    obtain ⟨x, y, rfl⟩ := e2
    subst e1
    simp [b42_2, wpSs, wpS, wpE, wpT, wpEs, wpEo, wpTo, wpIt, wpFs, wpHs, madeR, fmtD, setAll, seqD, bindP, bindPs, wipeE, startE, -Bool.exists_bool, -Bool.forall_bool, iD]
    exact hq
  · refine go _ fun σ m' e1 e2 => ?_
    obtain ⟨x, y, rfl⟩ := e2
    subst e1
    simp [b42_2, wpSs, wpS, wpE, wpT, wpEs, wpEo, wpTo, wpIt, wpFs, wpHs, madeR, fmtD, setAll, seqD, bindP, bindPs, wipeE, startE, -Bool.exists_bool, -Bool.forall_bool, iD]
    exact hq
def holdB (n : Nat) (s : List Nat) : Bool := (bitsN s).all fun b => n.testBit b
theorem bit_one (n b : Nat) : decide (PySem.Builtin.bitAnd ((n : Int) / 2 ^ b) 1 = 1) = n.testBit b := by
  have e : ((n : Int) / 2 ^ b) = ((n / 2 ^ b : Nat) : Int) := by simp
  rw [e, PyProof.Rows.bitAnd_m1, Nat.testBit_eq_decide_div_mod_eq]
  refine decide_eq_decide.mpr ?_
  omega
theorem bls_of {α : Type} (f : α → Bool) (xs : List α) : blsD (xs.map fun x => D.bl (f x)) = some (xs.map f) := bl_map f xs
theorem sp_hold (h : HSv T gv) {n : Nat} {s : List Nat} (hs : isKey s) (hq : Q (.bl (holdB n s)) m) : run T gv (k + 3) true 43 [iD n, .str s] m Q X := by
  refine run_df h.f43 rfl ?_
  simp [b43, wpSs, wpS, wpE, wpT, wpEs, wpEo, wpTo, wpIt, wpFs, wpHs, madeR, fmtD, setAll, seqD, bindP, bindPs, wipeE, startE, -Bool.exists_bool, -Bool.forall_bool]
  refine sp_bits (k := k) h hs ?_
  refine comp_map iD (fun b => D.bl (n.testBit b)) (gd_nilS m) (bitsN s) _ (fun b hb => ⟨_, rfl, fun R hR => ?_⟩) ?_
  · simp [iD]
    refine ⟨.inl rfl, ?_⟩
    show R (some (D.bl (decide (PySem.Builtin.bitAnd ((n : Int) / 2 ^ b) 1 = 1)))) m
    rw [bit_one]
    exact hR
  · refine ⟨_, bls_of (fun b => n.testBit b) (bitsN s), ?_⟩
    rw [List.all_map]
    exact hq
theorem ints_iD : ∀ bs : List Nat, intsD (bs.map iD) = some (bs.map fun b => ((b : Nat) : Int))
  | [] => rfl
  | b :: r => by
    show (match intsD (r.map iD) with
      | some is => some ((b : Int) :: is)
      | none => none) = _
    rw [ints_iD r]
    rfl
theorem nat_out {bs : List Nat} {out : List Int} (h1 : out.Pairwise (· < ·)) (h2 : ∀ x, x ∈ out ↔ x ∈ bs.map fun b => ((b : Nat) : Int)) : ∃ cs : List Nat, out = cs.map (fun b => ((b : Nat) : Int)) ∧ cs.Pairwise (· < ·) ∧ ∀ i, i ∈ cs ↔ i ∈ bs := by
  have hn : ∀ x ∈ out, ((x.toNat : Nat) : Int) = x := fun x hx => by
    obtain ⟨b, _, e⟩ := List.mem_map.mp ((h2 x).mp hx)
    omega
  refine ⟨out.map Int.toNat, ?_, ?_, fun i => ?_⟩
  · rw [List.map_map]
    have := List.map_congr_left (f := id) (g := (fun b : Nat => ((b : Nat) : Int)) ∘ Int.toNat) fun x hx => (hn x hx).symm
    rw [List.map_id] at this
    exact this
  · refine List.pairwise_map.mpr (h1.imp_of_mem fun {a b} ha hb h => ?_)
    have := hn a ha
    have := hn b hb
    omega
  · rw [List.mem_map]
    constructor
    · rintro ⟨x, hx, rfl⟩
      obtain ⟨b, hb, e⟩ := List.mem_map.mp ((h2 x).mp hx)
      have : x.toNat = b := by omega
      rw [this]
      exact hb
    · intro hi
      exact ⟨(i : Int), (h2 _).mpr (List.mem_map.mpr ⟨i, hi, rfl⟩), by simp⟩
theorem mem_int (b : Nat) : ∀ cs : List Nat, memD (iD b) (cs.map iD) = decide (b ∈ cs)
  | [] => rfl
  | c :: r => by
    have ih := mem_int b r
    unfold memD at ih ⊢
    rw [List.map_cons, List.any_cons, ih]
    have e : eqD (iD c) (iD b) = decide (b = c) := by
      show ((c : Int) == (b : Int)) = _
      rw [show ((c : Int) == (b : Int)) = decide ((c : Int) = (b : Int)) from rfl]
      exact decide_eq_decide.mpr ⟨fun h => by omega, fun h => by omega⟩
    rw [e]
    simp only [List.mem_cons, Bool.decide_or]
theorem hold_want (ks : List (List Nat)) (s : List Nat) : holdB (orB (keyBits ks)) s = (bitsN s).all fun b => decide (b ∈ keyBits ks) := by
  unfold holdB
  congr 1
  funext b
  exact orB_bit _ _
theorem hold_own {ks : List (List Nat)} {s : List Nat} (h : s ∈ ks) : holdB (orB (keyBits ks)) s = true := by
  rw [hold_want, List.all_eq_true]
  intro b hb
  exact decide_eq_true (List.mem_flatMap.mpr ⟨s, h, hb⟩)
end
/-! ### runs -/
abbrev En := List Nat × Int × Option Int
abbrev Sr := List Nat × Option (List Nat) × Int
abbrev Th := Int × Option Int
def enD (e : En) : D := .tup [.str e.1, .int e.2.1, atD e.2.2]
def srD (s : Sr) : D := .tup [.str s.1, oD s.2.1, .int s.2.2]
def tgD (t : Th) : D := .tup [.int t.1, atD t.2]
def otD : Option Th → D
  | none => .non
  | some t => tgD t
def inB (s lo : List Nat) (hi : Option (List Nat)) : Bool := !sltB s lo && belowB s hi
def touE (key : List Nat) (es : List En) : List Th := es.filterMap fun e => if e.1 = key then some e.2 else none
def touS (key : List Nat) (ss : List Sr) : List Th := ss.filterMap fun s => if inB key s.1 s.2.1 = true then some (s.2.2, none) else none
def touL (key : List Nat) (es : List En) (ss : List Sr) : List Th := touE key es ++ touS key ss
def newB (acc : Option Th) (i : Int) : Bool := match acc with
  | none => true
  | some f => decide (f.1 < i)
/-- the first one of the greatest stamp, among those seen -/
def seenF (at_ : Option Int) : List Th → Option Th → Option Th
  | [], acc => acc
  | t :: r, acc => seenF at_ r (if (seenB at_ t.1 && newB acc t.1) = true then some t else acc)
theorem seenF_cons (at_ : Option Int) (t : Th) (r : List Th) (acc : Option Th) : seenF at_ (t :: r) acc = seenF at_ r (if (seenB at_ t.1 && newB acc t.1) = true then some t else acc) := rfl
theorem newB_some (f : Th) (i : Int) : newB (some f) i = decide (f.1 < i) := rfl
theorem newB_none (i : Int) : newB none i = true := rfl
def ivs (es : List En) (ss : List Sr) : List Iv := es.map (fun e => (e.1, some (e.1 ++ [97]))) ++ ss.map (fun s => (s.1, s.2.1))
def covI (es : List En) (ss : List Sr) : Iv := (hullLo (ivs es ss), hullHi (ivs es ss))
def keysE (es : List En) : List (List Nat) := es.map fun e => e.1
def opensB (es : List En) (ss : List Sr) (key : List Nat) : Bool := ss.any (fun s => inB key s.1 s.2.1) || (inB key (covI es ss).1 (covI es ss).2 && holdB (orB (keyBits (keysE es))) key)
structure Rn where
  n : Int
  es : List En
  ss : List Sr
def Rn.d (r : Rn) : D := .obj 200 [(50, .int r.n), (51, .tup (r.es.map enD)), (52, .tup (r.ss.map srD)), (53, iD (orB (keyBits (keysE r.es))))]
@[simp] theorem un_en (e : En) : isUn (enD e) = false := rfl
@[simp] theorem rd_en (m : Mu) (e : En) : rd m (enD e) = enD e := rfl
@[simp] theorem un_sr (e : Sr) : isUn (srD e) = false := rfl
@[simp] theorem rd_sr (m : Mu) (e : Sr) : rd m (srD e) = srD e := rfl
@[simp] theorem un_tg (e : Th) : isUn (tgD e) = false := rfl
@[simp] theorem rd_tg (m : Mu) (e : Th) : rd m (tgD e) = tgD e := rfl
@[simp] theorem un_ot (p : Option Th) : isUn (otD p) = false := by cases p <;> rfl
@[simp] theorem rd_ot (m : Mu) (p : Option Th) : rd m (otD p) = otD p := by cases p <;> rfl
@[simp] theorem is_ot (p : Option Th) (Q : Bool → Prop) : cmpR .is (otD p) .non Q = Q p.isNone := by cases p <;> rfl
@[simp] theorem isn_ot (p : Option Th) (Q : Bool → Prop) : cmpR .isn (otD p) .non Q = Q p.isSome := by cases p <;> rfl
@[simp] theorem is_tg (p : Th) (Q : Bool → Prop) : cmpR .is (tgD p) .non Q = Q false := rfl
@[simp] theorem isn_tg (p : Th) (Q : Bool → Prop) : cmpR .isn (tgD p) .non Q = Q true := rfl
theorem at_some (i : Int) : atD (some i) = .int i := rfl
theorem at_none : atD none = .non := rfl
theorem ot_some (t : Th) : otD (some t) = tgD t := rfl
theorem ot_none : otD none = .non := rfl
@[simp] theorem un_rn (r : Rn) : isUn r.d = false := rfl
@[simp] theorem rd_rn (m : Mu) (r : Rn) : rd m r.d = r.d := rfl
@[simp] theorem ix_en0 (e : En) (Q : D → Prop) : ixR (enD e) (.int 0) Q = Q (.str e.1) := by
  show (∃ d, L2.atI _ _ = some d ∧ Q d) = _
  simp
@[simp] theorem ix_sr0 (e : Sr) (Q : D → Prop) : ixR (srD e) (.int 0) Q = Q (.str e.1) := by
  show (∃ d, L2.atI _ _ = some d ∧ Q d) = _
  simp
@[simp] theorem ix_tg0 (t : Th) (Q : D → Prop) : ixR (tgD t) (.int 0) Q = Q (.int t.1) := by
  show (∃ d, L2.atI _ _ = some d ∧ Q d) = _
  simp
@[simp] theorem ix_tg1 (t : Th) (Q : D → Prop) : ixR (tgD t) (.int 1) Q = Q (atD t.2) := by
  show (∃ d, L2.atI _ _ = some d ∧ Q d) = _
  simp
@[simp] theorem bind_en (e : En) (i j l : Nat) (σ : Env) : bindP (.tp (.cons (.nm i) (.cons (.nm j) (.cons (.nm l) .nil)))) (enD e) σ = some (((σ.set i (.str e.1)).set j (.int e.2.1)).set l (atD e.2.2)) := rfl
@[simp] theorem bind_sr (e : Sr) (i j l : Nat) (σ : Env) : bindP (.tp (.cons (.nm i) (.cons (.nm j) (.cons (.nm l) .nil)))) (srD e) σ = some (((σ.set i (.str e.1)).set j (oD e.2.1)).set l (.int e.2.2)) := rfl
@[simp] theorem bind_tg (t : Th) (i j : Nat) (σ : Env) : bindP (.tp (.cons (.nm i) (.cons (.nm j) .nil))) (tgD t) σ = some ((σ.set i (.int t.1)).set j (atD t.2)) := rfl
@[simp] theorem bind_iv (t : Iv) (i j : Nat) (σ : Env) : bindP (.tp (.cons (.nm i) (.cons (.nm j) .nil))) (iv t) σ = some ((σ.set i (.str t.1)).set j (oD t.2)) := rfl
structure HRn (T : Tb) (gv : Nat → D) : Prop extends HSv T gv where
  f11 : T 11 = some (.df 1 1 b11)
  f12 : T 12 = some (.df 2 2 b12)
  f13 : T 13 = some (.df 3 3 b13)
  f15 : T 15 = some (.df 1 4 b15)
  f47 : T 47 = some (.ini 200 4 10 i47)
  f51 : T 51 = some (.df 1 7 b51)
  f52 : T 52 = some (.df 2 8 b52)
  f53 : T 53 = some (.df 3 6 b53)
  f54 : T 54 = some (.df 2 5 b54)
section
variable {T : Tb} {gv : Nat → D} {k : Nat} {m : Mu} {Q : Pq} {X : Px}
theorem fm_map {α β : Type} (f : β → D) (p : α → Option β) : ∀ xs : List α, xs.filterMap (fun x => (p x).map f) = (xs.filterMap p).map f
  | [] => rfl
  | x :: r => by
    rw [List.filterMap_cons, List.filterMap_cons]
    cases h : p x with
    | none => exact fm_map f p r
    | some v => simp [fm_map f p r]
theorem any_mem {α : Type} (f : α → Bool) (xs : List α) : true ∈ xs.map f ↔ xs.any f = true := by
  rw [List.mem_map, List.any_eq_true]
theorem ite_mem {α : Type} (f : α → Bool) (xs : List α) {a b : Prop} [Decidable (true ∈ xs.map f)] : (if true ∈ xs.map f then a else b) = (if xs.any f = true then a else b) := by
  by_cases h : xs.any f = true
  · rw [if_pos h, if_pos ((any_mem f xs).mpr h)]
  · rw [if_neg h, if_neg (fun z => h ((any_mem f xs).mp z))]
/-- an own run is made of lists or tuples -/
theorem sp_make (h : HRn T gv) {n : Int} {es : List En} {ss : List Sr} (hk : ∀ e ∈ es, isKey e.1) {d1 d2 : D} (h1 : d1 = .lst (es.map enD) ∨ d1 = .tup (es.map enD)) (h2 : d2 = .lst (ss.map srD) ∨ d2 = .tup (ss.map srD))
    (hq : Q (Rn.d ⟨n, es, ss⟩) m) : run T gv (k + 4) true 47 [.int n, d1, d2] m Q X := by
  unfold run
  rw [h.f47]
  refine ⟨rfl, rfl, ?_⟩
  have c1 : ∀ (Q' : List D → Mu → Prop), Q' (es.map enD) m → compL [] (.tp (.cons (.nm 4) (.cons (.nm 5) (.cons (.nm 6) .nil)))) (fun σ2 m2 R => wpE (run T gv (k + 3)) gv true (.tup (.cons (.var 4) (.cons (.var 5) (.cons (.var 6) .nil)))) σ2 m2 (fun d m4 => R (some d) m4) NoX) [.un, .int n, d1, d2, .un, .un, .un, .un, .un, .un] (es.map enD) m [] Q' := by
    intro Q' hq'
    refine comp_map enD enD (gd_nilS m) es _ (fun e he => ⟨_, rfl, fun R hR => ?_⟩) hq'
    simp [wpSs, wpS, wpE, wpT, wpEs, wpEo, wpTo, wpIt, wpFs, wpHs, madeR, fmtD, setAll, seqD, bindP, bindPs, wipeE, startE, -Bool.exists_bool, -Bool.forall_bool]
    exact hR
  have c2 : ∀ (Q' : List D → Mu → Prop), Q' (ss.map srD) m → compL [] (.tp (.cons (.nm 7) (.cons (.nm 8) (.cons (.nm 5) .nil)))) (fun σ2 m2 R => wpE (run T gv (k + 3)) gv true (.tup (.cons (.var 7) (.cons (.var 8) (.cons (.var 5) .nil)))) σ2 m2 (fun d m4 => R (some d) m4) NoX) [.un, .int n, d1, d2, .un, .un, .un, .un, .un, .un] (ss.map srD) m [] Q' := by
    intro Q' hq'
    refine comp_map srD srD (gd_nilS m) ss _ (fun e he => ⟨_, rfl, fun R hR => ?_⟩) hq'
    simp [wpSs, wpS, wpE, wpT, wpEs, wpEo, wpTo, wpIt, wpFs, wpHs, madeR, fmtD, setAll, seqD, bindP, bindPs, wipeE, startE, -Bool.exists_bool, -Bool.forall_bool]
    exact hR
  have c3 : ∀ (Q' : List D → Mu → Prop), Q' ((keysE es).map .str) m → compL [] (.nm 9) (fun σ2 m2 R => wpE (run T gv (k + 3)) gv true (.ix (.var 9) (.int 0)) σ2 m2 (fun d m4 => R (some d) m4) NoX) [.un, .int n, d1, d2, .un, .un, .un, .un, .un, .un] (es.map enD) m [] Q' := by
    intro Q' hq'
    refine comp_map enD (fun e => .str e.1) (gd_nilS m) es _ (fun e he => ⟨_, rfl, fun R hR => ?_⟩) ?_
    · simp [wpSs, wpS, wpE, wpT, wpEs, wpEo, wpTo, wpIt, wpFs, wpHs, madeR, fmtD, setAll, seqD, bindP, bindPs, wipeE, startE, -Bool.exists_bool, -Bool.forall_bool]
      exact hR
    · unfold keysE at hq'
      rw [List.map_map] at hq'
      exact hq'
  have fin : ∀ d : D, (d = .lst ((keysE es).map .str)) → run T gv (k + 3) true 42 [d] m (fun d m1 => Q (.obj 200 [(50, .int n), (51, .tup (es.map enD)), (52, .tup (ss.map srD)), (53, d)]) m1) X := by
    intro d hd
    refine sp_sieve h.toHSv (ks := keysE es) (fun s hs => ?_) (.inl hd) hq
    obtain ⟨e, he, rfl⟩ := List.mem_map.mp hs
    exact hk e he
  rcases h1 with rfl | rfl <;> rcases h2 with rfl | rfl <;>
  · simp [i47, wpI, startE, wpE, wpEs, wpIt, wipeE, wpTo]
    simp [wpE, wpEs] at c1 c2 c3
    refine c1 _ ?_
    refine c2 _ ?_
    refine c3 _ ?_
    exact fin _ rfl
theorem sp_after (h : HRn T gv) {s : List Nat} (hl : s.length ≤ 1000) (hq : Q (.str (s ++ [97])) m) : run T gv (k + 1) true 11 [.str s] m Q X := by
  refine run_df h.f11 rfl ?_
  have : (line : Nat) = 16777216 := rfl
  simp [b11, wpSs, wpS, wpE, wpT, wpEs, wpEo, wpTo, wpIt, wpFs, wpHs, madeR, fmtD, setAll, seqD, bindP, bindPs, wipeE, startE, -Bool.exists_bool, -Bool.forall_bool]
  exact ⟨by omega, hq⟩
theorem sp_touching (h : HRn T gv) {r : Rn} {s : List Nat} (hl : (r.es.length + r.ss.length) ≤ 100000) (hq : Q (.lst ((touL s r.es r.ss).map tgD)) m) : run T gv (k + 3) true 52 [r.d, .str s] m Q X := by
  refine run_df h.f52 rfl ?_
  have : (line : Nat) = 16777216 := rfl
  simp [b52, wpSs, wpS, wpE, wpT, wpEs, wpEo, wpTo, wpIt, wpFs, wpHs, madeR, fmtD, setAll, seqD, bindP, bindPs, wipeE, startE, -Bool.exists_bool, -Bool.forall_bool, Rn.d, List.lookup]
  refine comp_mp enD (fun e => (if e.1 = s then some e.2 else none).map tgD) (gd_nilS m) r.es [] _ (fun e he => ⟨_, rfl, fun R hR => ?_⟩) ?_
  · simp [-Bool.exists_bool, -Bool.forall_bool]
    by_cases z : e.1 = s
    · rw [if_pos z] at hR ⊢
      exact hR
    · rw [if_neg z] at hR ⊢
      exact hR
  rw [List.nil_append, fm_map]
  simp [b52_1, wpSs, wpS, wpE, wpT, wpEs, wpEo, wpTo, wpIt, wpFs, wpHs, madeR, fmtD, setAll, seqD, bindP, bindPs, wipeE, startE, -Bool.exists_bool, -Bool.forall_bool, List.lookup]
  refine comp_mp srD (fun e => (if inB s e.1 e.2.1 = true then some ((e.2.2, none) : Th) else none).map tgD) (gd_nilS m) r.ss [] _ (fun e he => ⟨_, rfl, fun R hR => ?_⟩) ?_
  · simp [-Bool.exists_bool, -Bool.forall_bool]
    refine sp_within h.f12 h.f13 ⟨_, rfl, ?_⟩
    have e2 : (!sltB s e.1 && belowB s e.2.1) = inB s e.1 e.2.1 := rfl
    rw [e2]
    cases z : inB s e.1 e.2.1 with
    | true =>
      rw [if_pos z] at hR
      exact (if_pos rfl).mpr hR
    | false =>
      rw [if_neg (by rw [z]; decide)] at hR
      exact (if_neg (by decide)).mpr hR
  rw [List.nil_append, fm_map]
  have l1 : (touE s r.es).length ≤ r.es.length := List.length_filterMap_le ..
  have l2 : (touS s r.ss).length ≤ r.ss.length := List.length_filterMap_le ..
  unfold touL at hq
  rw [List.map_append] at hq
  refine ⟨?_, hq⟩
  unfold touE at l1
  unfold touS at l2
  rw [List.length_map]
  omega
theorem seenF_app (at_ : Option Int) : ∀ (l : List Th) (t : Th) (acc : Option Th), seenF at_ (l ++ [t]) acc = if (seenB at_ t.1 && newB (seenF at_ l acc) t.1) = true then some t else seenF at_ l acc
  | [], t, acc => rfl
  | x :: l, t, acc => seenF_app at_ l t _
theorem sp_seen (h : HRn T gv) {r : Rn} {s : List Nat} {a : Option Int} (hl : (r.es.length + r.ss.length) ≤ 100000) (hq : Q (otD (seenF a (touL s r.es r.ss) none)) m) : run T gv (k + 4) true 53 [r.d, .str s, atD a] m Q X := by
  refine run_df h.f53 rfl ?_
  simp [b53, b53_1, wpSs, wpS, wpE, wpT, wpEs, wpEo, wpTo, wpIt, wpFs, wpHs, madeR, fmtD, setAll, seqD, bindP, bindPs, wipeE, startE, -Bool.exists_bool, -Bool.forall_bool]
  refine ⟨rfl, sp_touching (k := k) h hl ?_⟩
  refine for_mp tgD (fun i σ m2 => ∃ d4 d5 : D, σ = [r.d, .str s, atD a, otD (seenF a ((touL s r.es r.ss).take i) none), d4, d5] ∧ m2 = m) (fun _ _ m _ => gd_nilS m) _ ⟨_, _, rfl, rfl⟩ ?_ ?_
  · rintro j t σ m2 hj ⟨d4, d5, rfl, rfl⟩
    refine ⟨_, rfl, fun nx hnx => ?_⟩
    have step : nx [r.d, .str s, atD a, otD (if (seenB a t.1 && newB (seenF a ((touL s r.es r.ss).take j) none) t.1) = true then some t else seenF a ((touL s r.es r.ss).take j) none), .int t.1, atD t.2] m2 := hnx _ _ ⟨_, _, by rw [take_snoc hj, seenF_app], rfl⟩
    clear hnx
    generalize seenF a ((touL s r.es r.ss).take j) none = f at step ⊢
    have tt : D.tup [.int t.1, atD t.2] = tgD t := rfl
    cases a with
    | none =>
      cases f with
      | none =>
        simp [b53a, b53b, wpSs, wpS, wpE, wpT, wpEs, wpEo, wpTo, wpIt, wpFs, wpHs, madeR, fmtD, setAll, seqD, bindP, bindPs, wipeE, startE, -Bool.exists_bool, -Bool.forall_bool, at_none, ot_none, tt]
        simpa [seenB, newB_none, newB_some, ot_some, at_none] using step
      | some f =>
        simp [b53a, b53b, wpSs, wpS, wpE, wpT, wpEs, wpEo, wpTo, wpIt, wpFs, wpHs, madeR, fmtD, setAll, seqD, bindP, bindPs, wipeE, startE, -Bool.exists_bool, -Bool.forall_bool, at_none, ot_some, tt]
        by_cases z : f.1 < t.1
        · simpa [seenB, newB_none, newB_some, z, ot_some, at_none] using step
        · simpa [seenB, newB_none, newB_some, z, ot_some, at_none] using step
    | some i =>
      by_cases y : t.1 ≤ i
      · cases f with
        | none =>
          simp [b53a, b53b, wpSs, wpS, wpE, wpT, wpEs, wpEo, wpTo, wpIt, wpFs, wpHs, madeR, fmtD, setAll, seqD, bindP, bindPs, wipeE, startE, -Bool.exists_bool, -Bool.forall_bool, at_some, ot_none, y, tt]
          simpa [seenB, newB_none, newB_some, ot_some, at_some, y] using step
        | some f =>
          simp [b53a, b53b, wpSs, wpS, wpE, wpT, wpEs, wpEo, wpTo, wpIt, wpFs, wpHs, madeR, fmtD, setAll, seqD, bindP, bindPs, wipeE, startE, -Bool.exists_bool, -Bool.forall_bool, at_some, ot_some, y, tt]
          by_cases z : f.1 < t.1
          · simpa [seenB, newB_none, newB_some, z, ot_some, at_some, y] using step
          · simpa [seenB, newB_none, newB_some, z, ot_some, at_some, y] using step
      · simp [b53a, b53b, wpSs, wpS, wpE, wpT, wpEs, wpEo, wpTo, wpIt, wpFs, wpHs, madeR, fmtD, setAll, seqD, bindP, bindPs, wipeE, startE, -Bool.exists_bool, -Bool.forall_bool, at_some, y]
        simpa [seenB, newB_none, newB_some, at_some, y] using step
  · rintro σ m2 ⟨d4, d5, rfl, rfl⟩
    rw [List.take_length]
    simp [b53_2, wpSs, wpS, wpE, wpT, wpEs, wpEo, wpTo, wpIt, wpFs, wpHs, madeR, fmtD, setAll, seqD, bindP, bindPs, wipeE, startE, -Bool.exists_bool, -Bool.forall_bool]
    exact hq
theorem sp_cover (h : HRn T gv) {r : Rn} (hk : ∀ e ∈ r.es, e.1.length ≤ 1000) (hne : r.es ≠ [] ∨ r.ss ≠ []) (hl : (r.es.length + r.ss.length) ≤ 100000) (hq : Q (iv (covI r.es r.ss)) m) : run T gv (k + 2) true 51 [r.d] m Q X := by
  refine run_df h.f51 rfl ?_
  have : (line : Nat) = 16777216 := rfl
  simp [b51, wpSs, wpS, wpE, wpT, wpEs, wpEo, wpTo, wpIt, wpFs, wpHs, madeR, fmtD, setAll, seqD, bindP, bindPs, wipeE, startE, -Bool.exists_bool, -Bool.forall_bool, Rn.d, List.lookup]
  refine comp_map enD (fun e => iv (e.1, some (e.1 ++ [97]))) (gd_nilS m) r.es _ (fun e he => ⟨_, rfl, fun R hR => ?_⟩) ?_
  · simp [-Bool.exists_bool, -Bool.forall_bool]
    exact sp_after (k := k) h (hk e he) hR
  simp [b51_1, wpSs, wpS, wpE, wpT, wpEs, wpEo, wpTo, wpIt, wpFs, wpHs, madeR, fmtD, setAll, seqD, bindP, bindPs, wipeE, startE, -Bool.exists_bool, -Bool.forall_bool, List.lookup]
  refine comp_map srD (fun e => iv (e.1, e.2.1)) (gd_nilS m) r.ss _ (fun e he => ⟨_, rfl, fun R hR => ?_⟩) ?_
  · simp [-Bool.exists_bool, -Bool.forall_bool]
    exact hR
  refine ⟨?_, ?_⟩
  · rw [List.length_map]
    omega
  · refine sp_hull h.f15 (ps := ivs r.es r.ss) ?_ (.inl ?_) hq
    · unfold ivs
      rcases hne with z | z <;> simp [z]
    · unfold ivs
      rw [List.map_append, List.map_map, List.map_map]
      rfl
theorem sp_opens (h : HRn T gv) {r : Rn} {s : List Nat} (hs : isKey s) (hk : ∀ e ∈ r.es, e.1.length ≤ 1000) (hne : r.es ≠ [] ∨ r.ss ≠ []) (hl : (r.es.length + r.ss.length) ≤ 100000) (hq : Q (.bl (opensB r.es r.ss s)) m) : run T gv (k + 4) true 54 [r.d, .str s] m Q X := by
  refine run_df h.f54 rfl ?_
  simp [b54, wpSs, wpS, wpE, wpT, wpEs, wpEo, wpTo, wpIt, wpFs, wpHs, madeR, fmtD, setAll, seqD, bindP, bindPs, wipeE, startE, -Bool.exists_bool, -Bool.forall_bool, Rn.d, List.lookup]
  refine comp_map srD (fun e => .bl (inB s e.1 e.2.1)) (gd_nilS m) r.ss _ (fun e he => ⟨_, rfl, fun R hR => ?_⟩) ?_
  · simp [-Bool.exists_bool, -Bool.forall_bool]
    exact sp_within h.f12 h.f13 hR
  refine ⟨_, bl_map _ _, ?_⟩
  rw [ite_mem]
  unfold opensB at hq
  cases z : r.ss.any (fun e => inB s e.1 e.2.1) with
  | true =>
    rw [z] at hq
    simp [b54a, wpSs, wpS, wpE, wpT, wpEs, wpEo, wpTo, wpIt, wpFs, wpHs, madeR, fmtD, setAll, seqD, bindP, bindPs, wipeE, startE, -Bool.exists_bool, -Bool.forall_bool]
    exact hq
  | false =>
    rw [z] at hq
    simp [b54_1, wpSs, wpS, wpE, wpT, wpEs, wpEo, wpTo, wpIt, wpFs, wpHs, madeR, fmtD, setAll, seqD, wipeE, startE, -Bool.exists_bool, -Bool.forall_bool]
    refine sp_cover (r := r) (k := k + 1) h hk hne hl ?_
    refine ⟨_, rfl, ?_⟩
    simp [b54_2, wpSs, wpS, wpE, wpT, wpEs, wpEo, wpTo, wpIt, wpFs, wpHs, madeR, fmtD, setAll, seqD, bindP, bindPs, wipeE, startE, -Bool.exists_bool, -Bool.forall_bool, List.lookup]
    refine sp_within h.f12 h.f13 ?_
    have e2 : (!sltB s (covI r.es r.ss).1 && belowB s (covI r.es r.ss).2) = inB s (covI r.es r.ss).1 (covI r.es r.ss).2 := rfl
    rw [e2]
    rw [Bool.false_or] at hq
    cases y : inB s (covI r.es r.ss).1 (covI r.es r.ss).2 with
    | false =>
      rw [y] at hq
      simp [-Bool.exists_bool, -Bool.forall_bool]
      exact hq
    | true =>
      rw [y, Bool.true_and] at hq
      simp [-Bool.exists_bool, -Bool.forall_bool]
      exact sp_hold (k := k) h.toHSv hs hq
end
end Pk

/-! Plain work: the laws' own runs. -/
namespace Pk
def b2015a_1 : Ss := .cons (.app (.var 2) (.tup (.cons (.var 3) (.cons (.call 2008 (.cons (.var 0) .nil)) .nil)))) .nil
def b2015a : Ss := .cons (.aug 3 .add (.op2 .add (.int 1) (.call 1001 (.cons (.var 0) (.cons (.int 3) .nil))))) b2015a_1
def b2015_4 : Ss := .cons (.ret (.var 2)) .nil
def b2015_3 : Ss := .cons (.frz 2) b2015_4
def b2015_2 : Ss := .cons (.forr (.nm 4) (.rng (.var 1)) b2015a) b2015_3
def b2015_1 : Ss := .cons (.asg (.nm 3) (.int 0)) b2015_2
def b2015 : Ss := .cons (.box 2 (.lst .nil)) b2015_1
def b2016a : Ss := .cons (.ret (.non)) .nil
def b2016c : Ss := .cons (.ret (.int 0)) .nil
def b2016e : Ss := .cons (.ret (.op2 .add (.var 2) (.call 1001 (.cons (.var 0) (.cons (.ix (.lst (.cons (.int 3) (.cons (.op2 .pow (.int 10) (.int 20)) .nil))) (.call 1001 (.cons (.var 0) (.cons (.int 2) .nil)))) .nil))))) .nil
def b2016_5 : Ss := .cons (.ret (.call 1001 (.cons (.var 0) (.cons (.op2 .add (.var 2) (.int 1)) .nil)))) .nil
def b2016_4 : Ss := .cons (.ite (.cmp .eq (.var 3) (.int 2)) b2016e .nil) b2016_5
def b2016_3 : Ss := .cons (.ite (.cmp .eq (.var 3) (.int 1)) b2016c .nil) b2016_4
def b2016_2 : Ss := .cons (.ite (.cmp .eq (.var 3) (.int 0)) b2016a .nil) b2016_3
def b2016_1 : Ss := .cons (.asg (.nm 3) (.call 1001 (.cons (.var 0) (.cons (.int 6) .nil)))) b2016_2
def b2016 : Ss := .cons (.asg (.nm 2) (.ife (.var 1) (.ix (.ix (.var 1) (.neg (.int 1))) (.int 0)) (.int 0))) b2016_1
def b2044a : Ss := .cons (.asg (.nm 1) (.op2 .add (.op2 .add (.op2 .mul (.var 1) (.int 27)) (.sm .index (.str [97, 98, 99, 100, 101, 102, 103, 104, 105, 106, 107, 108, 109, 110, 111, 112, 113, 114, 115, 116, 117, 118, 119, 120, 121, 122])
  (.var 2))) (.int 1))) .nil
def b2044_2 : Ss := .cons (.ret (.lst (.cons (.op2 .mod (.var 1) (.int 61)) (.cons (.op2 .mod (.var 1) (.int 53)) (.cons (.op2 .mod (.var 1) (.int 47)) .nil))))) .nil
def b2044_1 : Ss := .cons (.forr (.nm 2) (.seq (.var 0)) b2044a) b2044_2
def b2044 : Ss := .cons (.asg (.nm 1) (.int 0)) b2044_1
def b2045_1 : Ss := .cons (.ret (.comp [4, 5, 3] (.tup (.cons (.var 4) (.cons (.op2 .sub (.int 0) (.var 5)) (.cons (.ife (.cmp .eq (.ix (.var 3) (.int 0)) (.str [112, 117, 116])) (.ix (.var 3) (.int 2)) (.non)) .nil)))) (.tp (.cons (.nm 4)
  (.cons (.nm 5) (.cons (.nm 3) .nil)))) (.seq (.bi .sorted (.cons (.var 1) .nil))) .none)) .nil
def b2045 : Ss := .cons (.asgc 1 (.comp [2, 3] (.tup (.cons (.ix (.var 3) (.int 1)) (.cons (.op2 .sub (.int 0) (.var 2)) (.cons (.var 3) .nil)))) (.tp (.cons (.nm 2) (.cons (.nm 3) .nil))) (.seq (.var 0)) (.some (.cmp .ne (.ix (.var 3)
  (.int 0)) (.str [115, 116, 114, 101, 116, 99, 104]))))) b2045_1
def b2046_1 : Ss := .cons (.ret (.comp [4, 2, 3] (.tup (.cons (.var 4) (.cons (.ix (.var 3) (.int 2)) (.cons (.var 2) .nil)))) (.tp (.cons (.nm 4) (.cons (.nm 2) (.cons (.nm 3) .nil)))) (.seq (.bi .sorted (.cons (.var 1) .nil))) .none)) .nil
def b2046 : Ss := .cons (.asgc 1 (.comp [2, 3] (.tup (.cons (.ix (.var 3) (.int 1)) (.cons (.var 2) (.cons (.var 3) .nil)))) (.tp (.cons (.nm 2) (.cons (.nm 3) .nil))) (.seq (.var 0)) (.some (.cmp .eq (.ix (.var 3) (.int 0)) (.str [115,
  116, 114, 101, 116, 99, 104]))))) b2046_1
def b2047 : Ss := .cons (.ret (.and (.cmp .le (.var 1) (.var 0)) (.or (.cmp .is (.var 2) (.non)) (.cmp .lt (.var 0) (.var 2))))) .nil
def b2048_1 : Ss := .cons (.ret (.op2 .add (.var 3) (.comp [7, 8, 5] (.tup (.cons (.var 5) (.cons (.non) .nil))) (.tp (.cons (.nm 7) (.cons (.nm 8) (.cons (.nm 5) .nil)))) (.seq (.var 1)) (.some (.call 2047 (.cons (.var 2) (.cons (.var 7)
  (.cons (.var 8) .nil)))))))) .nil
def b2048 : Ss := .cons (.asgc 3 (.comp [4, 5, 6] (.tup (.cons (.var 5) (.cons (.var 6) .nil))) (.tp (.cons (.nm 4) (.cons (.nm 5) (.cons (.nm 6) .nil)))) (.seq (.var 0)) (.some (.cmp .eq (.var 4) (.var 2))))) b2048_1
def b2049a : Ss := .cons (.ret (.non)) .nil
def b2049_3 : Ss := .cons (.ret (.ix (.comp [6] (.var 6) (.nm 6) (.seq (.var 4)) (.some (.cmp .eq (.ix (.var 6) (.int 0)) (.var 5)))) (.int 0))) .nil
def b2049_2 : Ss := .cons (.asg (.nm 5) (.bi .max (.cons (.comp [7, 8] (.var 7) (.tp (.cons (.nm 7) (.cons (.nm 8) .nil))) (.seq (.var 4)) .none) .nil))) b2049_3
def b2049_1 : Ss := .cons (.ite (.not (.var 4)) b2049a .nil) b2049_2
def b2049 : Ss := .cons (.asgc 4 (.comp [6] (.var 6) (.nm 6) (.seq (.call 2048 (.cons (.var 0) (.cons (.var 1) (.cons (.var 2) .nil))))) (.some (.or (.cmp .is (.var 3) (.non)) (.cmp .le (.ix (.var 6) (.int 0)) (.var 3)))))) b2049_1
def b2050a : Ss := .cons (.ret (.tup (.cons (.var 3) (.cons (.non) .nil)))) .nil
def b2050_3 : Ss := .cons (.ret (.tup (.cons (.var 3) (.cons (.bi .max (.cons (.var 2) .nil)) .nil)))) .nil
def b2050_2 : Ss := .cons (.ite (.cmp .mem (.non) (.var 2)) b2050a .nil) b2050_3
def b2050_1 : Ss := .cons (.asg (.nm 3) (.bi .min (.cons (.comp [8] (.ix (.var 8) (.int 0)) (.nm 8) (.seq (.op2 .add (.bi .list (.cons (.var 0) .nil)) (.bi .list (.cons (.var 1) .nil)))) .none) .nil))) b2050_2
def b2050 : Ss := .cons (.asg (.nm 2) (.op2 .add (.comp [4, 5, 6] (.op2 .add (.var 4) (.str [97])) (.tp (.cons (.nm 4) (.cons (.nm 5) (.cons (.nm 6) .nil)))) (.seq (.var 0)) .none) (.comp [3, 7, 5] (.var 7) (.tp (.cons (.nm 3) (.cons (.nm
  7) (.cons (.nm 5) .nil)))) (.seq (.var 1)) .none))) b2050_1
def b2056a : Ss := .cons (.ret (.bl true)) .nil
def b2056c : Ss := .cons (.asg (.nm 3) (.op2 .add (.var 3) (.call 2044 (.cons (.var 4) .nil)))) .nil
def b2056_4 : Ss := .cons (.ret (.and (.call 2047 (.cons (.var 2) (.cons (.var 7) (.cons (.var 8) .nil)))) (.bi .all (.cons (.comp [9] (.cmp .mem (.var 9) (.var 3)) (.nm 9) (.seq (.call 2044 (.cons (.var 2) .nil))) .none) .nil)))) .nil
def b2056_3 : Ss := .cons (.asg (.tp (.cons (.nm 7) (.cons (.nm 8) .nil))) (.call 2050 (.cons (.var 0) (.cons (.var 1) .nil)))) b2056_4
def b2056_2 : Ss := .cons (.forr (.tp (.cons (.nm 4) (.cons (.nm 5) (.cons (.nm 6) .nil)))) (.seq (.var 0)) b2056c) b2056_3
def b2056_1 : Ss := .cons (.asg (.nm 3) (.lst .nil)) b2056_2
def b2056 : Ss := .cons (.ite (.bi .any (.cons (.comp [7, 8, 5] (.call 2047 (.cons (.var 2) (.cons (.var 7) (.cons (.var 8) .nil)))) (.tp (.cons (.nm 7) (.cons (.nm 8) (.cons (.nm 5) .nil)))) (.seq (.var 1)) .none) .nil)) b2056a .nil)
  b2056_1
def b2057_3 : Ss := .cons (.ret (.sset true (.op2 .add (.op2 .add (.var 2) (.var 3)) (.lst (.cons (.call 1003 (.cons (.var 0) .nil)) (.cons (.call 1003 (.cons (.var 0) .nil)) (.cons (.str [122]) (.cons (.str [122, 122, 122, 122, 122, 122,
  122, 122]) .nil)))))))) .nil
def b2057_2 : Ss := .cons (.asg (.nm 3) (.op2 .add (.comp [6] (.slc (.op2 .add (.var 6) (.str [97])) .none (.some (.int 8))) (.nm 6) (.seq (.var 2)) .none) (.comp [6] (.op2 .add (.slc (.var 6) .none (.some (.neg (.int 1)))) (.str [98])) (.nm
  6) (.seq (.var 2)) .none))) b2057_3
def b2057_1 : Ss := .cons (.asg (.nm 2) (.sset true (.comp [6] (.var 6) (.nm 6) (.seq (.var 2)) (.some (.cmp .isn (.var 6) (.non)))))) b2057_2
def b2057 : Ss := .cons (.asg (.nm 2) (.op2 .add (.comp [4, 5] (.ix (.var 5) (.int 1)) (.tp (.cons (.nm 4) (.cons (.nm 5) .nil))) (.seq (.var 1)) .none) (.comp [4, 5] (.ix (.var 5) (.int 2)) (.tp (.cons (.nm 4) (.cons (.nm 5) .nil))) (.seq
  (.var 1)) (.some (.cmp .eq (.ix (.var 5) (.int 0)) (.str [115, 116, 114, 101, 116, 99, 104])))))) b2057_1
structure HLr (T : Tb) : Prop extends HDr T where
  f2045 : T 2045 = some (.df 1 6 b2045)
  f2046 : T 2046 = some (.df 1 5 b2046)
  f2047 : T 2047 = some (.df 3 3 b2047)
section
variable {T : Tb} {gv : Nat → D} {k : Nat} {m : Mu} {Q : Pq} {X : Px}
/-- a history: stamps rise -/
def hisG (n : Int) (hs : List Ent) : Prop := hs.Pairwise (fun a b => a.1 < b.1) ∧ ∀ e ∈ hs, (1 ≤ e.1 ∧ e.1 ≤ n) ∧ opGood e.2
theorem sp_hist (h : HDr T) (h15 : T 2015 = some (.df 2 5 b2015)) {a : Nat} {n : Int} (hn : n ≤ 1000) (h0 : 0 ≤ n) (hm : ∀ b, m b = none ∨ True) (hq : ∀ hs : List Ent, hisG (3 * n) hs → (hs.length : Int) = n → Q (.lst (hs.map entD)) m) : run T gv (k + 4) true 2015 [.st a, .int n] m Q X := by
  refine run_df h15 rfl ?_
  simp [b2015, wpSs, wpS, wpE, wpT, wpEs, wpEo, wpTo, wpIt, wpFs, wpHs, madeR, fmtD, setAll, seqD, bindP, bindPs, wipeE, startE, -Bool.exists_bool, -Bool.forall_bool]
  intro b hb
  simp [b2015_1, b2015_2, wpSs, wpS, wpE, wpT, wpEs, wpEo, wpTo, wpIt, wpFs, wpHs, madeR, fmtD, setAll, seqD, bindP, bindPs, wipeE, startE, -Bool.exists_bool, -Bool.forall_bool]
  refine ⟨by show n ≤ ((16777216 : Nat) : Int); omega, by omega, ?_⟩
  refine forL_ind (fun i σ m2 => ∃ (hs : List Ent) (st : Int) (d4 : D), σ = [.st a, .int n, .ref b, .int st, d4] ∧ (0 ≤ st ∧ st ≤ 3 * i) ∧ hs.Pairwise (fun a b => a.1 < b.1) ∧ (∀ e ∈ hs, (1 ≤ e.1 ∧ e.1 ≤ st) ∧ opGood e.2) ∧ hs.length = i ∧ m2 = mup m b (some (.lst (hs.map entD)))) (fun _ _ m _ => gd_nilS m) _ 0 _ _ ⟨[], 0, .un, rfl, by omega, List.Pairwise.nil, fun _ z => by (cases z), rfl, rfl⟩ ?_ ?_
  · rintro j d σ m2 hj ⟨hs, st, d4, rfl, hst, hpw, hhs, hl, rfl⟩
    have hj2 : (j : Int) < 1000 := by
      have := (List.getElem?_eq_some_iff.mp hj).1
      simp at this
      omega
    refine ⟨_, rfl, fun nx hnx => ?_⟩
    simp [b2015a, wpSs, wpS, wpE, wpT, wpEs, wpEo, wpTo, wpIt, wpFs, wpHs, madeR, fmtD, setAll, seqD, bindP, bindPs, wipeE, startE, -Bool.exists_bool, -Bool.forall_bool]
    refine run_draw h.fD (by decide) (by decide +kernel) fun r r0 r1 => ?_
    simp [b2015a_1, wpSs, wpS, wpE, wpT, wpEs, wpEo, wpTo, wpIt, wpFs, wpHs, madeR, fmtD, setAll, seqD, bindP, bindPs, wipeE, startE, -Bool.exists_bool, -Bool.forall_bool]
    refine ⟨⟨_, mup_at ..⟩, ?_⟩
    refine sp_op h fun o ho => ?_
    refine ⟨_, mup_at .., by rw [List.length_map]; show hs.length < 16777216; omega, ?_⟩
    refine hnx _ _ ⟨hs ++ [(st + (1 + r), o)], st + (1 + r), _, rfl, by omega, ?_, fun e he => ?_, by simp; omega, ?_⟩
    · refine List.pairwise_append.mpr ⟨hpw, List.pairwise_singleton _ _, fun x hx y hy => ?_⟩
      have := (hhs x hx).1
      rw [List.mem_singleton.mp hy]
      show x.1 < st + (1 + r)
      omega
    · rcases List.mem_append.mp he with he | he
      · have := hhs e he
        exact ⟨by omega, this.2⟩
      · have e1 : e = (st + (1 + r), o) := by simpa using he
        subst e1
        exact ⟨by show 1 ≤ st + (1 + r) ∧ st + (1 + r) ≤ _; omega, ho⟩
    · rw [mup_mup, List.map_append]
      rfl
  · rintro σ m2 ⟨hs, st, d4, rfl, hst, hpw, hhs, hl, rfl⟩
    simp at hl
    simp [b2015_3, wpSs, wpS, wpE, wpT, wpEs, wpEo, wpTo, wpIt, wpFs, wpHs, madeR, fmtD, setAll, seqD, bindP, bindPs, wipeE, startE, -Bool.exists_bool, -Bool.forall_bool, mup_at, mup_mup, mup_back hb]
    simp [b2015_4, wpSs, wpS, wpE, wpT, wpEs, wpEo, wpTo, wpIt, wpFs, wpHs, madeR, fmtD, setAll, seqD, bindP, bindPs, wipeE, startE, -Bool.exists_bool, -Bool.forall_bool]
    refine hq hs ⟨hpw, fun e he => ⟨?_, (hhs e he).2⟩⟩ (by omega)
    have := (hhs e he).1
    simp at hst
    omega
/-! ### entries, stretches -/
def nst : Op → Bool
  | .stretch .. => false
  | _ => true
def opV : Op → Option Int
  | .put _ v => some v
  | _ => none
def opH : Op → Option (List Nat)
  | .stretch _ hi => hi
  | _ => none
def entOf (e : Ent) : En := (opK e.2, e.1, opV e.2)
def strOf (e : Ent) : Sr := (opK e.2, opH e.2, e.1)
theorem perm_map_inv {α β : Type} {f : α → β} : ∀ {l : List β} {xs : List α}, l.Perm (xs.map f) → ∃ ys : List α, ys.Perm xs ∧ l = ys.map f := by
  have key : ∀ {l l' : List β}, l.Perm l' → ∀ {xs : List α}, l' = xs.map f → ∃ ys : List α, ys.Perm xs ∧ l = ys.map f := by
    intro l l' h
    induction h with
    | nil =>
      intro xs hx
      cases xs with
      | nil => exact ⟨[], .refl _, rfl⟩
      | cons => cases hx
    | cons x h ih =>
      intro xs hx
      cases xs with
      | nil => cases hx
      | cons y ys =>
        injection hx with h1 h2
        obtain ⟨zs, p, e⟩ := ih h2
        exact ⟨y :: zs, p.cons y, by rw [List.map_cons, h1, e]⟩
    | swap x y l =>
      intro xs hx
      match xs, hx with
      | [], hx => cases hx
      | [_], hx => injection hx with h1 h2; cases h2
      | u :: v :: r, hx =>
        injection hx with h1 h2
        injection h2 with h2 h3
        exact ⟨v :: u :: r, List.Perm.swap .., by rw [List.map_cons, List.map_cons, h1, h2, h3]⟩
    | trans h1 h2 i1 i2 =>
      intro xs hx
      obtain ⟨ys, p, e⟩ := i2 hx
      obtain ⟨zs, p2, e2⟩ := i1 e
      exact ⟨zs, p2.trans p, e2⟩
  exact fun {l xs} h => key h rfl
theorem rows_map {α : Type} (sh : Sh) (f : α → D) (g : α → List Ky) (h : ∀ x, rowD sh (f x) = some (g x)) : ∀ xs : List α, rowsD sh (xs.map f) = some (xs.map g)
  | [] => rfl
  | x :: r => by
    rw [List.map_cons]
    unfold rowsD
    rw [h x, rows_map sh f g h r]
    rfl
theorem sorted_rows {α : Type} (sh : Sh) (f : α → D) (g : α → List Ky) (h : ∀ x, rowD sh (f x) = some (g x)) {m : Mu} {xs : List α} (hn : (xs.map g).Nodup) {Q' : D → Prop} (hq : ∀ ys : List α, ys.Perm xs → ys.Pairwise (fun a b => kyLt (g a) (g b) = true) → Q' (.lst (ys.map f))) : biR .sorted m [.lst (xs.map f)] Q' := by
  show ∃ sh ks, rowsD sh _ = some ks ∧ ks.Nodup ∧ _
  refine ⟨sh, _, rows_map sh f g h xs, hn, fun out hp hw => ?_⟩
  obtain ⟨ys, p, rfl⟩ := perm_map_inv hp
  refine hq ys p ?_
  rw [List.pairwise_map] at hw
  refine hw.imp fun {a b} z => ?_
  unfold rowLt at z
  rw [h, h] at z
  exact z
theorem his_nodup {n : Int} {hs : List Ent} (hh : hisG n hs) (g : Ent → List Ky) (hg : ∀ a b, g a = g b → a.1 = b.1) {l : List Ent} (hl : l.Sublist hs) : (l.map g).Nodup := by
  have hp : l.Pairwise (fun a b => a.1 < b.1) := hh.1.sublist hl
  refine List.pairwise_map.mpr (hp.imp fun {a b} z e => ?_)
  have := hg a b e
  omega
theorem nst_w (o : Op) : (opW o = sStretch) ↔ nst o = false := by cases o <;> simp [opW, nst, sPut, sStrike, sStretch]
theorem fm_if {α : Type} (p : α → Bool) (f : α → D) : ∀ xs : List α, xs.filterMap (fun e => if p e = true then some (f e) else none) = (xs.filter p).map f
  | [] => rfl
  | x :: r => by
    rw [List.filterMap_cons, List.filter_cons, fm_if p f r]
    cases h : p x <;> simp [-Bool.exists_bool, -Bool.forall_bool]
theorem ix_op2 {o : Op} {Q : D → Prop} (h : opW o = sPut) (hq : Q (atD (opV o))) : ixR (opD o) (.int 2) Q := by
  cases o with
  | put kk v => simp [opD]; exact hq
  | strike kk => simp [opW, sPut, sStrike] at h
  | stretch lo hi => simp [opW, sPut, sStretch] at h
theorem ix_op2s {o : Op} {Q : D → Prop} (h : nst o = false) (hq : Q (oD (opH o))) : ixR (opD o) (.int 2) Q := by
  cases o with
  | put kk v => cases h
  | strike kk => cases h
  | stretch lo hi => simp [opD]; exact hq
theorem opV_put {o : Op} (h : opW o ≠ sPut) : opV o = none := by
  cases o with
  | put kk v => exact absurd rfl h
  | strike kk => rfl
  | stretch lo hi => rfl
/-- a list as it stands, or in a box -/
def HL (m : Mu) (d : D) (l : List D) : Prop := d = .lst l ∨ ∃ b, d = .ref b ∧ m b = some (.lst l)
theorem gd_one {m : Mu} {b : Nat} {l : List D} (h : m b = some (.lst l)) : Gd [(b, l)] m := fun p hp => by rw [List.mem_singleton.mp hp]; exact h
theorem sp_entries (h : HLr T) {n : Int} {hs : List Ent} (hh : hisG n hs) (hq : ∀ ys : List Ent, ys.Perm (hs.filter fun e => nst e.2) → ys.Pairwise (fun a b => kyLt [.s (opK a.2), .i (-a.1)] [.s (opK b.2), .i (-b.1)] = true) → Q (.lst ((ys.map entOf).map enD)) m) : ∀ {d : D}, HL m d (hs.map entD) → run T gv (k + 1) true 2045 [d] m Q X := by
  intro d hd
  refine run_df h.f2045 rfl ?_
  rcases hd with rfl | ⟨b, rfl, hb⟩ <;> (
  first
    | simp [b2045, wpSs, wpS, wpE, wpT, wpEs, wpEo, wpTo, wpIt, wpFs, wpHs, madeR, fmtD, setAll, seqD, bindP, bindPs, wipeE, startE, -Bool.exists_bool, -Bool.forall_bool, hb]
    | simp [b2045, wpSs, wpS, wpE, wpT, wpEs, wpEo, wpTo, wpIt, wpFs, wpHs, madeR, fmtD, setAll, seqD, bindP, bindPs, wipeE, startE, -Bool.exists_bool, -Bool.forall_bool]
  refine comp_mp entD (fun e => if nst e.2 = true then some (D.tup [.str (opK e.2), .int (-e.1), opD e.2]) else none) (by first | exact gd_nilS m | exact gd_one hb) hs [] _ (fun e he => ⟨_, rfl, fun R hR => ?_⟩) ?_
  · simp [-Bool.exists_bool, -Bool.forall_bool]
    have e1 : (opW e.2 = [115, 116, 114, 101, 116, 99, 104]) ↔ nst e.2 = false := nst_w e.2
    cases z : nst e.2 with
    | true =>
      rw [if_pos z] at hR
      rw [if_neg (by rw [e1, z]; decide)]
      exact hR
    | false =>
      rw [if_neg (by rw [z]; decide)] at hR
      rw [if_pos (by rw [e1, z])]
      exact hR
  rw [List.nil_append, fm_if (fun e : Ent => nst e.2)]
  simp [b2045_1, wpSs, wpS, wpE, wpT, wpEs, wpEo, wpTo, wpIt, wpFs, wpHs, madeR, fmtD, setAll, seqD, bindP, bindPs, wipeE, startE, -Bool.exists_bool, -Bool.forall_bool]
  refine sorted_rows .si (fun e : Ent => D.tup [.str (opK e.2), .int (-e.1), opD e.2]) (fun e => [.s (opK e.2), .i (-e.1)]) (fun e => rfl) (his_nodup hh _ (fun a b z => by injection z with _ z; injection z with z _; injection z with z; omega) (List.filter_sublist ..)) fun ys hp hw => ?_
  refine comp_map (fun e : Ent => D.tup [.str (opK e.2), .int (-e.1), opD e.2]) (fun e => enD (entOf e)) (gd_nilS m) ys _ (fun e he => ⟨_, rfl, fun R hR => ?_⟩) ?_
  · simp [-Bool.exists_bool, -Bool.forall_bool]
    by_cases z : opW e.2 = sPut
    · refine (if_pos z).mpr (ix_op2 z ?_)
      exact hR
    · refine (if_neg z).mpr ?_
      have := opV_put z
      unfold enD entOf at hR
      rw [this] at hR
      exact hR
  · have := hq ys hp hw
    rw [List.map_map] at this
    exact this)
theorem sp_stretches (h : HLr T) {n : Int} {hs : List Ent} (hh : hisG n hs) (hq : ∀ ys : List Ent, ys.Perm (hs.filter fun e => !nst e.2) → ys.Pairwise (fun a b => kyLt [.s (opK a.2), .i a.1] [.s (opK b.2), .i b.1] = true) → Q (.lst ((ys.map strOf).map srD)) m) : ∀ {d : D}, HL m d (hs.map entD) → run T gv (k + 1) true 2046 [d] m Q X := by
  intro d hd
  refine run_df h.f2046 rfl ?_
  rcases hd with rfl | ⟨b, rfl, hb⟩ <;> (
  first
    | simp [b2046, wpSs, wpS, wpE, wpT, wpEs, wpEo, wpTo, wpIt, wpFs, wpHs, madeR, fmtD, setAll, seqD, bindP, bindPs, wipeE, startE, -Bool.exists_bool, -Bool.forall_bool, hb]
    | simp [b2046, wpSs, wpS, wpE, wpT, wpEs, wpEo, wpTo, wpIt, wpFs, wpHs, madeR, fmtD, setAll, seqD, bindP, bindPs, wipeE, startE, -Bool.exists_bool, -Bool.forall_bool]
  refine comp_mp entD (fun e => if (!nst e.2) = true then some (D.tup [.str (opK e.2), .int e.1, opD e.2]) else none) (by first | exact gd_nilS m | exact gd_one hb) hs [] _ (fun e he => ⟨_, rfl, fun R hR => ?_⟩) ?_
  · simp [-Bool.exists_bool, -Bool.forall_bool]
    have e1 : (opW e.2 = [115, 116, 114, 101, 116, 99, 104]) ↔ nst e.2 = false := nst_w e.2
    cases z : nst e.2 with
    | true =>
      rw [if_neg (by rw [z]; decide)] at hR
      rw [if_neg (by rw [e1, z]; decide)]
      exact hR
    | false =>
      rw [if_pos (by rw [z]; decide)] at hR
      rw [if_pos (by rw [e1, z])]
      exact hR
  rw [List.nil_append, fm_if (fun e : Ent => !nst e.2)]
  simp [b2046_1, wpSs, wpS, wpE, wpT, wpEs, wpEo, wpTo, wpIt, wpFs, wpHs, madeR, fmtD, setAll, seqD, bindP, bindPs, wipeE, startE, -Bool.exists_bool, -Bool.forall_bool]
  refine sorted_rows .si (fun e : Ent => D.tup [.str (opK e.2), .int e.1, opD e.2]) (fun e => [.s (opK e.2), .i e.1]) (fun e => rfl) (his_nodup hh _ (fun a b z => by injection z with _ z; injection z with z _; injection z with z) (List.filter_sublist ..)) fun ys hp hw => ?_
  refine comp_map (fun e : Ent => D.tup [.str (opK e.2), .int e.1, opD e.2]) (fun e => srD (strOf e)) (gd_nilS m) ys _ (fun e he => ⟨_, rfl, fun R hR => ?_⟩) ?_
  · simp [-Bool.exists_bool, -Bool.forall_bool]
    have z : nst e.2 = false := by
      have := (List.mem_filter.mp (hp.mem_iff.mp he)).2
      simpa using this
    exact ix_op2s z hR
  · have := hq ys hp hw
    rw [List.map_map] at this
    exact this)
theorem sp_in (h : HLr T) {s lo : List Nat} {t : Option (List Nat)} (hq : Q (.bl (inB s lo t)) m) : run T gv (k + 1) true 2047 [.str s, .str lo, oD t] m Q X := by
  refine run_df h.f2047 rfl ?_
  simp [b2047, wpSs, wpS, wpE, wpT, wpEs, wpEo, wpTo, wpIt, wpFs, wpHs, madeR, fmtD, setAll, seqD, bindP, bindPs, wipeE, startE, -Bool.exists_bool, -Bool.forall_bool]
  unfold inB at hq
  cases e : sltB s lo with
  | true =>
    rw [e] at hq
    simpa using hq
  | false =>
    rw [e] at hq
    cases t with
    | none => simpa using hq
    | some u => simpa [oD] using hq
theorem sp_ltouching (h : HLr T) (h48 : T 2048 = some (.df 3 9 b2048)) {es : List En} {ss : List Sr} {s : List Nat} (hl : (es.length + ss.length) ≤ 100000) (hq : Q (.lst ((touL s es ss).map tgD)) m) : run T gv (k + 2) true 2048 [.lst (es.map enD), .lst (ss.map srD), .str s] m Q X := by
  refine run_df h48 rfl ?_
  have : (line : Nat) = 16777216 := rfl
  simp [b2048, wpSs, wpS, wpE, wpT, wpEs, wpEo, wpTo, wpIt, wpFs, wpHs, madeR, fmtD, setAll, seqD, bindP, bindPs, wipeE, startE, -Bool.exists_bool, -Bool.forall_bool]
  refine comp_mp enD (fun e => (if e.1 = s then some e.2 else none).map tgD) (gd_nilS m) es [] _ (fun e he => ⟨_, rfl, fun R hR => ?_⟩) ?_
  · simp [-Bool.exists_bool, -Bool.forall_bool]
    by_cases z : e.1 = s
    · rw [if_pos z] at hR ⊢
      exact hR
    · rw [if_neg z] at hR ⊢
      exact hR
  rw [List.nil_append, fm_map]
  simp [b2048_1, wpSs, wpS, wpE, wpT, wpEs, wpEo, wpTo, wpIt, wpFs, wpHs, madeR, fmtD, setAll, seqD, bindP, bindPs, wipeE, startE, -Bool.exists_bool, -Bool.forall_bool]
  refine comp_mp srD (fun e => (if inB s e.1 e.2.1 = true then some ((e.2.2, none) : Th) else none).map tgD) (gd_nilS m) ss [] _ (fun e he => ⟨_, rfl, fun R hR => ?_⟩) ?_
  · simp [-Bool.exists_bool, -Bool.forall_bool]
    refine sp_in h ⟨_, rfl, ?_⟩
    cases z : inB s e.1 e.2.1 with
    | true =>
      rw [if_pos z] at hR
      exact (if_pos rfl).mpr hR
    | false =>
      rw [if_neg (by rw [z]; decide)] at hR
      exact (if_neg (by decide)).mpr hR
  rw [List.nil_append, fm_map]
  have l1 : (touE s es).length ≤ es.length := List.length_filterMap_le ..
  have l2 : (touS s ss).length ≤ ss.length := List.length_filterMap_le ..
  unfold touL at hq
  rw [List.map_append] at hq
  refine ⟨?_, hq⟩
  unfold touE at l1
  unfold touS at l2
  rw [List.length_map]
  omega
theorem seenF_filter (a : Option Int) : ∀ (l : List Th) (acc : Option Th), seenF a l acc = seenF none (l.filter fun t => seenB a t.1) acc
  | [], acc => rfl
  | t :: r, acc => by
    rw [List.filter_cons, seenF_cons, seenF_filter a r]
    cases h : seenB a t.1 with
    | true =>
      rw [if_pos rfl, seenF_cons]
      rfl
    | false =>
      rw [Bool.false_and, if_neg (by decide), if_neg (by decide)]
theorem seenF_keep {f : Th} : ∀ {l : List Th}, (∀ t ∈ l, t.1 ≤ f.1) → seenF none l (some f) = some f
  | [], _ => rfl
  | t :: r, h => by
    have := h t List.mem_cons_self
    have e : decide (f.1 < t.1) = false := decide_eq_false (by omega)
    rw [seenF_cons, newB_some, e, Bool.and_false, if_neg (by decide)]
    exact seenF_keep fun t ht => h t (List.mem_cons_of_mem _ ht)
theorem seenF_first {top : Int} : ∀ {l : List Th} {acc : Option Th}, (∀ t ∈ l, t.1 ≤ top) → (∀ f, acc = some f → f.1 < top) → (∃ t ∈ l, t.1 = top) → seenF none l acc = (l.filter fun t => decide (t.1 = top)).head?
  | [], _, _, _, h => by obtain ⟨t, ht, _⟩ := h; cases ht
  | t :: r, acc, h1, h2, h3 => by
    rw [List.filter_cons, seenF_cons]
    have ht := h1 t List.mem_cons_self
    have hr : ∀ t ∈ r, t.1 ≤ top := fun t ht => h1 t (List.mem_cons_of_mem _ ht)
    have es : seenB none t.1 = true := rfl
    rw [es, Bool.true_and]
    by_cases z : t.1 = top
    · rw [decide_eq_true z, if_pos rfl]
      have e : newB acc t.1 = true := by
        cases hacc : acc with
        | none => rfl
        | some f => exact decide_eq_true (by have := h2 f hacc; omega)
      rw [e, if_pos rfl]
      exact seenF_keep fun u hu => by have := hr u hu; omega
    · rw [decide_eq_false z, if_neg (show ¬ (false = true) by decide)]
      refine seenF_first hr (fun f hf => ?_) ?_
      · cases hn : newB acc t.1 with
        | true =>
          rw [hn, if_pos rfl] at hf
          cases hf
          omega
        | false =>
          rw [hn, if_neg (by decide)] at hf
          exact h2 f hf
      · obtain ⟨u, hu, e⟩ := h3
        rcases List.mem_cons.mp hu with rfl | hu
        · exact absurd e z
        · exact ⟨u, hu, e⟩
theorem ints_of {α : Type} (f : α → Int) : ∀ l : List α, intsD (l.map fun x => D.int (f x)) = some (l.map f)
  | [] => rfl
  | x :: r => by
    rw [List.map_cons]
    unfold intsD
    rw [ints_of f r]
    rfl
theorem sp_lseen (h : HLr T) (h48 : T 2048 = some (.df 3 9 b2048)) (h49 : T 2049 = some (.df 4 9 b2049)) {es : List En} {ss : List Sr} {s : List Nat} {a : Option Int} (hl : (es.length + ss.length) ≤ 100000) (hq : Q (otD (seenF a (touL s es ss) none)) m) : run T gv (k + 3) true 2049 [.lst (es.map enD), .lst (ss.map srD), .str s, atD a] m Q X := by
  refine run_df h49 rfl ?_
  simp [b2049, wpSs, wpS, wpE, wpT, wpEs, wpEo, wpTo, wpIt, wpFs, wpHs, madeR, fmtD, setAll, seqD, bindP, bindPs, wipeE, startE, -Bool.exists_bool, -Bool.forall_bool]
  refine sp_ltouching (k := k) h h48 hl ?_
  refine comp_mp tgD (fun t => if seenB a t.1 = true then some (tgD t) else none) (gd_nilS m) _ [] _ (fun t ht => ⟨_, rfl, fun R hR => ?_⟩) ?_
  · cases a with
    | none => simp [atD]; exact hR
    | some i =>
      simp [atD]
      by_cases z : t.1 ≤ i
      · rw [if_pos z]
        rw [if_pos (show seenB (some i) t.1 = true from decide_eq_true z)] at hR
        exact hR
      · rw [if_neg z]
        rw [if_neg (by show ¬ decide (t.1 ≤ i) = true; simpa using z)] at hR
        exact hR
  rw [List.nil_append, fm_if (fun t : Th => seenB a t.1)]
  rw [seenF_filter] at hq
  generalize (touL s es ss).filter (fun t => seenB a t.1) = ts at hq ⊢
  simp [b2049_1, wpSs, wpS, wpE, wpT, wpEs, wpEo, wpTo, wpIt, wpFs, wpHs, madeR, fmtD, setAll, seqD, bindP, bindPs, wipeE, startE, -Bool.exists_bool, -Bool.forall_bool]
  cases ts with
  | nil =>
    simp [b2049a, wpSs, wpS, wpE, wpT, wpEs, wpEo, wpTo, wpIt, wpFs, wpHs, madeR, fmtD, setAll, seqD, bindP, bindPs, wipeE, startE, -Bool.exists_bool, -Bool.forall_bool]
    exact hq
  | cons t0 tr =>
    generalize hts : t0 :: tr = ts at hq ⊢
    have hne : neB ts = true := by rw [← hts]; rfl
    rw [hne]
    simp [b2049_2, wpSs, wpS, wpE, wpT, wpEs, wpEo, wpTo, wpIt, wpFs, wpHs, madeR, fmtD, setAll, seqD, bindP, bindPs, wipeE, startE, -Bool.exists_bool, -Bool.forall_bool]
    refine comp_map tgD (fun t => .int t.1) (gd_nilS m) ts _ (fun t ht => ⟨_, rfl, fun R hR => ?_⟩) ?_
    · simp [-Bool.exists_bool, -Bool.forall_bool]
      exact hR
    rw [bi_maxl]
    refine .inl ⟨_, ints_of (fun t : Th => t.1) ts, by rw [← hts]; simp, fun top ht hmax => ?_⟩
    simp [b2049_3, wpSs, wpS, wpE, wpT, wpEs, wpEo, wpTo, wpIt, wpFs, wpHs, madeR, fmtD, setAll, seqD, bindP, bindPs, wipeE, startE, -Bool.exists_bool, -Bool.forall_bool]
    obtain ⟨u, hu, eu⟩ := List.mem_map.mp ht
    have e2 := seenF_first (top := top) (l := ts) (acc := none) (fun t ht => hmax _ (List.mem_map.mpr ⟨t, ht, rfl⟩)) (fun f hf => by cases hf) ⟨u, hu, eu⟩
    refine comp_mp tgD (fun t => if decide (t.1 = top) = true then some (tgD t) else none) (gd_nilS m) ts [] _ (fun t ht => ⟨_, rfl, fun R hR => ?_⟩) ?_
    · simp [-Bool.exists_bool, -Bool.forall_bool]
      by_cases z : t.1 = top
      · rw [if_pos z]
        rw [if_pos (decide_eq_true z)] at hR
        exact hR
      · rw [if_neg z]
        rw [if_neg (by simpa using z)] at hR
        exact hR
    rw [List.nil_append, fm_if (fun t : Th => decide (t.1 = top))]
    rw [e2] at hq
    have hm : u ∈ ts.filter fun t => decide (t.1 = top) := List.mem_filter.mpr ⟨hu, decide_eq_true eu⟩
    cases hf : ts.filter fun t => decide (t.1 = top) with
    | nil => rw [hf] at hm; cases hm
    | cons v vs =>
      rw [hf] at hq
      simp [-Bool.exists_bool, -Bool.forall_bool]
      exact hq
def esD (x : En ⊕ Sr) : D := Sum.elim enD srD x
theorem sp_lcover (h : HLr T) (h50 : T 2050 = some (.df 2 9 b2050)) {es : List En} {ss : List Sr} (hk : ∀ e ∈ es, e.1.length ≤ 1000) (hne : es ≠ [] ∨ ss ≠ []) (hl : (es.length + ss.length) ≤ 100000) (hq : Q (iv (covI es ss)) m) : run T gv (k + 1) true 2050 [.lst (es.map enD), .lst (ss.map srD)] m Q X := by
  refine run_df h50 rfl ?_
  have : (line : Nat) = 16777216 := rfl
  have hp : ivs es ss ≠ [] := by
    unfold ivs
    rcases hne with z | z <;> simp [z]
  simp [b2050, wpSs, wpS, wpE, wpT, wpEs, wpEo, wpTo, wpIt, wpFs, wpHs, madeR, fmtD, setAll, seqD, bindP, bindPs, wipeE, startE, -Bool.exists_bool, -Bool.forall_bool]
  refine comp_map enD (fun e => oD (some (e.1 ++ [97]))) (gd_nilS m) es _ (fun e he => ⟨_, rfl, fun R hR => ?_⟩) ?_
  · simp [-Bool.exists_bool, -Bool.forall_bool]
    exact ⟨by have := hk e he; omega, hR⟩
  refine comp_map srD (fun e => oD e.2.1) (gd_nilS m) ss _ (fun e he => ⟨_, rfl, fun R hR => ?_⟩) ?_
  · simp [-Bool.exists_bool, -Bool.forall_bool]
    exact hR
  refine ⟨by rw [List.length_map, List.length_map]; omega, ?_⟩
  have e1 : (es.map fun e => oD (some (e.1 ++ [97]))) ++ (ss.map fun e => oD e.2.1) = (ivs es ss).map fun p => oD p.2 := by
    unfold ivs
    rw [List.map_append, List.map_map, List.map_map]
    rfl
  rw [e1]
  simp [b2050_1, wpSs, wpS, wpE, wpT, wpEs, wpEo, wpTo, wpIt, wpFs, wpHs, madeR, fmtD, setAll, seqD, bindP, bindPs, wipeE, startE, -Bool.exists_bool, -Bool.forall_bool]
  refine ⟨by omega, ?_⟩
  have e2 : es.map enD ++ ss.map srD = (es.map Sum.inl ++ ss.map Sum.inr).map esD := by
    rw [List.map_append, List.map_map, List.map_map]
    rfl
  rw [e2]
  refine comp_map esD (fun x => .str (Sum.elim (fun e : En => e.1) (fun e : Sr => e.1) x)) (gd_nilS m) _ _ (fun x hx => ?_) ?_
  · cases x with
    | inl e =>
      refine ⟨_, rfl, fun R hR => ?_⟩
      simp [esD]
      exact hR
    | inr e =>
      refine ⟨_, rfl, fun R hR => ?_⟩
      simp [esD]
      exact hR
  have e3 : ((es.map Sum.inl ++ ss.map Sum.inr).map fun x : En ⊕ Sr => D.str (Sum.elim (fun e : En => e.1) (fun e : Sr => e.1) x)) = (ivs es ss).map fun p => D.str p.1 := by
    unfold ivs
    rw [List.map_append, List.map_append, List.map_map, List.map_map, List.map_map, List.map_map]
    rfl
  rw [e3]
  refine min_lo hp ?_
  simp [b2050_2, wpSs, wpS, wpE, wpT, wpEs, wpEo, wpTo, wpIt, wpFs, wpHs, madeR, fmtD, setAll, seqD, bindP, bindPs, wipeE, startE, -Bool.exists_bool, -Bool.forall_bool]
  refine ⟨fun x y hx => by
    have := List.all_eq_true.mp (oD_sca (ivs es ss)) _ (List.mem_map.mpr ⟨_, hx, rfl⟩)
    exact this, ?_⟩
  rw [mem_non]
  cases ha : (ivs es ss).all fun p => p.2.isSome with
  | true =>
    simp [b2050_3, wpSs, wpS, wpE, wpT, wpEs, wpEo, wpTo, wpIt, wpFs, wpHs, madeR, fmtD, setAll, seqD, bindP, bindPs, wipeE, startE, -Bool.exists_bool, -Bool.forall_bool]
    exact max_hi hp ha hq
  | false =>
    simp [b2050a, wpSs, wpS, wpE, wpT, wpEs, wpEo, wpTo, wpIt, wpFs, wpHs, madeR, fmtD, setAll, seqD, bindP, bindPs, wipeE, startE, -Bool.exists_bool, -Bool.forall_bool]
    have e : hullHi (ivs es ss) = none := by
      unfold hullHi
      rw [if_neg (by rw [ha]; decide)]
    unfold covI at hq
    rw [e] at hq
    exact hq
theorem sp_lawbits (h44 : T 2044 = some (.df 1 3 b2044)) {s : List Nat} (hs : isKey s) (hq : Q (.lst ((bitsN s).map iD)) m) : run T gv (k + 1) true 2044 [.str s] m Q X := by
  refine run_df h44 rfl ?_
  simp [b2044a, b2044_2, b2044_1, b2044, wpSs, wpS, wpE, wpT, wpEs, wpEo, wpTo, wpIt, wpFs, wpHs, madeR, fmtD, setAll, seqD, bindP, bindPs, wipeE, startE, -Bool.exists_bool, -Bool.forall_bool]
  refine ⟨by show s.length ≤ 16777216; have := hs.2.1; omega, ?_⟩
  refine for_mp (fun c => D.str [c]) (fun i σ m' => m' = m ∧ ∃ x, σ = [.str s, iD (numN (s.take i)), x]) (fun _ _ _ _ => gd_nilS _) s ⟨rfl, _, rfl⟩ (fun j c σ m' hj hi => ?_) fun σ m' hi => ?_
  · obtain ⟨rfl, x, rfl⟩ := hi
    have hc := hs.2.2 c (List.mem_of_getElem? hj)
    refine ⟨_, rfl, fun nx hnx => ?_⟩
    simp [iD]
    refine ⟨_, [], idx_abc c hc, hnx _ _ ⟨rfl, .str [c], ?_⟩⟩
    rw [num_take hj]
    simp [iD]
    omega
  · obtain ⟨rfl, x, rfl⟩ := hi
    rw [List.take_of_length_le (Nat.le_refl _)]
    simp [iD]
    exact hq
theorem mem_iD (b : Nat) : ∀ cs : List Nat, memD (iD b) (cs.map iD) = decide (b ∈ cs) := mem_int b
theorem sp_lopens (h : HLr T) (h44 : T 2044 = some (.df 1 3 b2044)) (h50 : T 2050 = some (.df 2 9 b2050)) (h56 : T 2056 = some (.df 3 10 b2056)) {es : List En} {ss : List Sr} {s : List Nat} (hs : isKey s) (hk : ∀ e ∈ es, isKey e.1) (hne : es ≠ [] ∨ ss ≠ []) (hl : (es.length + ss.length) ≤ 100000) (hq : Q (.bl (opensB es ss s)) m) : run T gv (k + 2) true 2056 [.lst (es.map enD), .lst (ss.map srD), .str s] m Q X := by
  refine run_df h56 rfl ?_
  have big : (line : Nat) = 16777216 := rfl
  simp [b2056, wpSs, wpS, wpE, wpT, wpEs, wpEo, wpTo, wpIt, wpFs, wpHs, madeR, fmtD, setAll, seqD, bindP, bindPs, wipeE, startE, -Bool.exists_bool, -Bool.forall_bool]
  refine comp_map srD (fun e => .bl (inB s e.1 e.2.1)) (gd_nilS m) ss _ (fun e he => ⟨_, rfl, fun R hR => ?_⟩) ?_
  · simp [-Bool.exists_bool, -Bool.forall_bool]
    exact sp_in h hR
  refine ⟨_, bl_map _ _, ?_⟩
  rw [ite_mem]
  unfold opensB at hq
  cases z : ss.any (fun e => inB s e.1 e.2.1) with
  | true =>
    rw [z] at hq
    simp [b2056a, wpSs, wpS, wpE, wpT, wpEs, wpEo, wpTo, wpIt, wpFs, wpHs, madeR, fmtD, setAll, seqD, bindP, bindPs, wipeE, startE, -Bool.exists_bool, -Bool.forall_bool]
    exact hq
  | false =>
    rw [z, Bool.false_or] at hq
    simp [b2056_1, b2056_2, wpSs, wpS, wpE, wpT, wpEs, wpEo, wpTo, wpIt, wpFs, wpHs, madeR, fmtD, setAll, seqD, bindP, bindPs, wipeE, startE, -Bool.exists_bool, -Bool.forall_bool]
    have bl : ∀ l : List (List Nat), (keyBits l).length = 3 * l.length := fun l => by
      induction l with
      | nil => rfl
      | cons x r ih =>
        unfold keyBits at ih ⊢
        rw [List.flatMap_cons, List.length_append, ih, List.length_cons]
        show 3 + _ = _
        omega
    refine for_mp enD (fun i σ m' => m' = m ∧ ∃ x y w, σ = [.lst (es.map enD), .lst (ss.map srD), .str s, .lst ((keyBits (keysE (es.take i))).map iD), x, y, w, .un, .un, .un]) (fun _ _ _ _ => gd_nilS _) es ⟨rfl, _, _, _, rfl⟩ (fun j e σ m' hj hi => ?_) fun σ m' hi => ?_
    · obtain ⟨rfl, x, y, w, rfl⟩ := hi
      refine ⟨_, rfl, fun nx hnx => ?_⟩
      simp [b2056c, wpSs, wpS, wpE, wpT, wpEs, wpEo, wpTo, wpIt, wpFs, wpHs, madeR, fmtD, setAll, seqD, bindP, bindPs, wipeE, startE, -Bool.exists_bool, -Bool.forall_bool]
      refine sp_lawbits (k := k) h44 (hk e (List.mem_of_getElem? hj)) ?_
      have h1 := bl (keysE (es.take j))
      have h2 : (keysE (es.take j)).length ≤ es.length := by unfold keysE; rw [List.length_map, List.length_take]; omega
      have hb3 : (bitsN e.1).length = 3 := rfl
      simp [-Bool.exists_bool, -Bool.forall_bool]
      refine ⟨by omega, hnx _ _ ⟨rfl, .str e.1, .int e.2.1, atD e.2.2, ?_⟩⟩
      rw [take_snoc hj]
      unfold keysE keyBits
      rw [List.map_append, List.flatMap_append]
      simp [-Bool.exists_bool, -Bool.forall_bool]
    · obtain ⟨rfl, x, y, w, rfl⟩ := hi
      rw [List.take_of_length_le (Nat.le_refl _)]
      simp [b2056_3, wpSs, wpS, wpE, wpT, wpEs, wpEo, wpTo, wpIt, wpFs, wpHs, madeR, fmtD, setAll, seqD, wipeE, startE, -Bool.exists_bool, -Bool.forall_bool]
      refine sp_lcover (k := k) h h50 (fun e he => by have := (hk e he).2.1; omega) hne hl ?_
      refine ⟨_, rfl, ?_⟩
      simp [b2056_4, wpSs, wpS, wpE, wpT, wpEs, wpEo, wpTo, wpIt, wpFs, wpHs, madeR, fmtD, setAll, seqD, bindP, bindPs, wipeE, startE, -Bool.exists_bool, -Bool.forall_bool]
      refine sp_in h ?_
      cases y : inB s (covI es ss).1 (covI es ss).2 with
      | false =>
        rw [y] at hq
        simp [-Bool.exists_bool, -Bool.forall_bool]
        exact hq
      | true =>
        rw [y, Bool.true_and, hold_want] at hq
        simp [-Bool.exists_bool, -Bool.forall_bool]
        refine sp_lawbits (k := k) h44 hs ?_
        refine comp_map iD (fun b => D.bl (decide (b ∈ keyBits (keysE es)))) (gd_nilS _) (bitsN s) _ (fun b hb => ⟨_, rfl, fun R hR => ?_⟩) ?_
        · simp [iD]
          have hR' : R (some (D.bl (memD (iD b) ((keyBits (keysE es)).map iD)))) m' := by
            rw [mem_iD]
            exact hR
          exact hR'
        · refine ⟨_, bl_map _ _, ?_⟩
          rw [List.all_map]
          exact hq
/-! ### keys asked, viewers -/
theorem key_a {s : List Nat} (hs : isKey s) : isKey ((s ++ [97]).take 8) := by
  refine ⟨?_, ?_, fun c hc => ?_⟩
  · have := hs.1
    rw [List.length_take, List.length_append]
    show 1 ≤ min 8 (s.length + 1)
    omega
  · rw [List.length_take]
    omega
  · rcases List.mem_append.mp (List.mem_of_mem_take hc) with q | q
    · exact hs.2.2 c q
    · have : c = 97 := by simpa using q
      omega
theorem key_b {s : List Nat} (hs : isKey s) : isKey (s.take (s.length - 1) ++ [98]) := by
  have := hs.1
  have := hs.2.1
  refine ⟨?_, ?_, fun c hc => ?_⟩
  · rw [List.length_append]
    show 1 ≤ _ + 1
    omega
  · rw [List.length_append, List.length_take]
    show min (s.length - 1) s.length + 1 ≤ 8
    omega
  · rcases List.mem_append.mp hc with q | q
    · exact hs.2.2 c (List.mem_of_mem_take q)
    · have : c = 98 := by simpa using q
      omega
theorem cut_butlast {α : Type} (s : List α) : cutG s none (some (-1)) = s.take (s.length - 1) := by
  unfold cutG
  have e1 : HT.sIx s.length 0 none = 0 := rfl
  have e2 : HT.sIx s.length s.length (some (-1)) = s.length - 1 := by
    unfold HT.sIx
    simp [-Bool.exists_bool, -Bool.forall_bool]
    omega
  rw [e1, e2]
  rfl
theorem key_good {o : Op} (h : opGood o) : isKey (opK o) := by
  cases o with
  | put kk v => exact h.1
  | strike kk => exact h
  | stretch lo hi => exact h.1
theorem sset_strs {ss : List (List Nat)} {Q' : D → Prop} (hl : ss.length < 4000) (hq : ∀ out : List (List Nat), (out.Pairwise fun a b => sltB a b = true) → (∀ x, x ∈ out ↔ x ∈ ss) → Q' (.lst (out.map .str))) : ssR true (.lst (ss.map .str)) Q' := by
  refine ⟨by rw [List.length_map]; exact hl, .inr ⟨ss, strs_map (fun s => s) ss ▸ (by congr 1; simp), fun out h1 h2 => ?_⟩⟩
  rw [if_pos rfl]
  exact hq out h1 h2
theorem nd_len {α : Type} [DecidableEq α] : ∀ {a b : List α}, a.Nodup → (∀ x ∈ a, x ∈ b) → a.length ≤ b.length
  | [], _, _, _ => Nat.zero_le _
  | x :: a, b, h, k => by
    obtain ⟨h1, h2⟩ := List.nodup_cons.mp h
    have hx := k x List.mem_cons_self
    have := nd_len (b := b.erase x) h2 fun y hy => (List.mem_erase_of_ne fun e => h1 (by rw [← e]; exact hy)).mpr (k y (List.mem_cons_of_mem _ hy))
    rw [List.length_erase_of_mem hx] at this
    have := List.length_pos_of_mem hx
    rw [List.length_cons]
    omega
theorem out_len {out ss : List (List Nat)} (h1 : out.Pairwise fun a b => sltB a b = true) (h2 : ∀ x, x ∈ out ↔ x ∈ ss) : out.length ≤ ss.length := by
  have hn : out.Nodup := h1.imp fun {a b} z e => by rw [e, slt_irr] at z; cases z
  exact nd_len hn fun x hx => (h2 x).mp hx
theorem sp_somekeys (h : HLr T) (h57 : T 2057 = some (.df 2 7 b2057)) {a : Nat} {n : Int} {hs : List Ent} (hh : hisG n hs) (hl : hs.length ≤ 100) (hq : ∀ ks : List (List Nat), (∀ s ∈ ks, isKey s) → ks.length ≤ 1000 → Q (.lst (ks.map .str)) m) : run T gv (k + 3) true 2057 [.st a, .lst (hs.map entD)] m Q X := by
  refine run_df h57 rfl ?_
  have big : (line : Nat) = 16777216 := rfl
  simp [b2057, wpSs, wpS, wpE, wpT, wpEs, wpEo, wpTo, wpIt, wpFs, wpHs, madeR, fmtD, setAll, seqD, bindP, bindPs, wipeE, startE, -Bool.exists_bool, -Bool.forall_bool]
  refine comp_map entD (fun e => oD (some (opK e.2))) (gd_nilS m) hs _ (fun e he => ⟨_, rfl, fun R hR => ?_⟩) ?_
  · simp [-Bool.exists_bool, -Bool.forall_bool]
    exact hR
  refine comp_mp entD (fun e => if (!nst e.2) = true then some (oD (opH e.2)) else none) (gd_nilS m) hs [] _ (fun e he => ⟨_, rfl, fun R hR => ?_⟩) ?_
  · simp [-Bool.exists_bool, -Bool.forall_bool]
    have e1 : (opW e.2 = [115, 116, 114, 101, 116, 99, 104]) ↔ nst e.2 = false := nst_w e.2
    cases z : nst e.2 with
    | true =>
      rw [if_neg (by rw [z]; decide)] at hR
      rw [if_neg (by rw [e1, z]; decide)]
      exact hR
    | false =>
      rw [if_pos (by rw [z]; decide)] at hR
      rw [if_pos (by rw [e1, z])]
      exact ix_op2s z hR
  rw [List.nil_append, fm_if (fun e : Ent => !nst e.2)]
  have lf : (hs.filter fun e : Ent => !nst e.2).length ≤ hs.length := List.length_filter_le ..
  refine ⟨by rw [List.length_map, List.length_map]; omega, ?_⟩
  simp [b2057_1, wpSs, wpS, wpE, wpT, wpEs, wpEo, wpTo, wpIt, wpFs, wpHs, madeR, fmtD, setAll, seqD, bindP, bindPs, wipeE, startE, -Bool.exists_bool, -Bool.forall_bool]
  have e1 : (hs.map fun e : Ent => oD (some (opK e.2))) ++ (hs.filter fun e : Ent => !nst e.2).map (fun e => oD (opH e.2)) = ((hs.map fun e : Ent => some (opK e.2)) ++ (hs.filter fun e : Ent => !nst e.2).map fun e => opH e.2).map oD := by
    rw [List.map_append, List.map_map, List.map_map]
    rfl
  rw [e1]
  have hos : ∀ o ∈ ((hs.map fun e : Ent => some (opK e.2)) ++ (hs.filter fun e : Ent => !nst e.2).map fun e => opH e.2), ∀ s, o = some s → isKey s := by
    intro o ho s e
    subst e
    rcases List.mem_append.mp ho with z | z
    · obtain ⟨x, hx, e⟩ := List.mem_map.mp z
      injection e with e
      rw [← e]
      exact key_good (hh.2 x hx).2
    · obtain ⟨x, hx, e⟩ := List.mem_map.mp z
      have hg := (hh.2 x (List.mem_filter.mp hx).1).2
      cases ho2 : x.2 with
      | put kk v => rw [ho2] at e; cases e
      | strike kk => rw [ho2] at e; cases e
      | stretch lo hi =>
        rw [ho2] at e hg
        exact (hg.2 s e).1
  have hol : ((hs.map fun e : Ent => some (opK e.2)) ++ (hs.filter fun e : Ent => !nst e.2).map fun e => opH e.2).length ≤ 200 := by
    rw [List.length_append, List.length_map, List.length_map]
    omega
  generalize ((hs.map fun e : Ent => some (opK e.2)) ++ (hs.filter fun e : Ent => !nst e.2).map fun e => opH e.2) = os at hos hol ⊢
  refine comp_mp oD (fun o => o.map D.str) (gd_nilS m) os [] _ (fun o ho => ⟨_, rfl, fun R hR => ?_⟩) ?_
  · cases o with
    | none => simp; exact hR
    | some s => simp; exact hR
  have e2 : os.filterMap (fun o => o.map D.str) = (os.filterMap id).map D.str := fm_map D.str id os
  rw [List.nil_append, e2]
  have hk1 : ∀ s ∈ os.filterMap id, isKey s := fun s hs => by
    obtain ⟨o, ho, e⟩ := List.mem_filterMap.mp hs
    exact hos o ho s e
  have hl1 : (os.filterMap id).length ≤ 200 := Nat.le_trans (List.length_filterMap_le ..) hol
  refine sset_strs (by omega) fun k1 p1 p2 => ?_
  have hk2 : ∀ s ∈ k1, isKey s := fun s hs => hk1 s ((p2 s).mp hs)
  have hl2 : k1.length ≤ 200 := Nat.le_trans (out_len p1 p2) hl1
  simp [b2057_2, wpSs, wpS, wpE, wpT, wpEs, wpEo, wpTo, wpIt, wpFs, wpHs, madeR, fmtD, setAll, seqD, bindP, bindPs, wipeE, startE, -Bool.exists_bool, -Bool.forall_bool]
  refine comp_map D.str (fun s => D.str ((s ++ [97]).take 8)) (gd_nilS m) k1 _ (fun s hs => ⟨_, rfl, fun R hR => ?_⟩) ?_
  · have := (hk2 s hs).2.1
    simp [slc_s]
    refine ⟨by omega, ?_⟩
    rw [cut_take _ (by decide)]
    exact hR
  refine comp_map D.str (fun s => D.str (s.take (s.length - 1) ++ [98])) (gd_nilS m) k1 _ (fun s hs => ⟨_, rfl, fun R hR => ?_⟩) ?_
  · have := (hk2 s hs).2.1
    simp [slc_s]
    refine ⟨by omega, ?_⟩
    rw [cut_butlast, List.length_take]
    exact ⟨by omega, hR⟩
  refine ⟨by rw [List.length_map, List.length_map]; omega, ?_⟩
  have e3 : (k1.map fun s => D.str ((s ++ [97]).take 8)) ++ (k1.map fun s => D.str (s.take (s.length - 1) ++ [98])) = ((k1.map fun s => (s ++ [97]).take 8) ++ (k1.map fun s => s.take (s.length - 1) ++ [98])).map D.str := by
    rw [List.map_append, List.map_map, List.map_map]
    rfl
  rw [e3]
  have hk3 : ∀ s ∈ (k1.map fun s => (s ++ [97]).take 8) ++ (k1.map fun s => s.take (s.length - 1) ++ [98]), isKey s := fun s hs => by
    rcases List.mem_append.mp hs with z | z
    · obtain ⟨x, hx, rfl⟩ := List.mem_map.mp z
      exact key_a (hk2 x hx)
    · obtain ⟨x, hx, rfl⟩ := List.mem_map.mp z
      exact key_b (hk2 x hx)
  have hl3 : ((k1.map fun s => (s ++ [97]).take 8) ++ (k1.map fun s => s.take (s.length - 1) ++ [98])).length ≤ 400 := by
    rw [List.length_append, List.length_map, List.length_map]
    omega
  generalize ((k1.map fun s => (s ++ [97]).take 8) ++ (k1.map fun s => s.take (s.length - 1) ++ [98])) = k3 at hk3 hl3 ⊢
  simp [b2057_3, wpSs, wpS, wpE, wpT, wpEs, wpEo, wpTo, wpIt, wpFs, wpHs, madeR, fmtD, setAll, seqD, bindP, bindPs, wipeE, startE, -Bool.exists_bool, -Bool.forall_bool]
  refine ⟨by omega, ?_⟩
  refine sp_key (k := k) h.f1003 h.fD fun s1 hs1 => ?_
  refine sp_key (k := k) h.f1003 h.fD fun s2 hs2 => ?_
  refine ⟨by omega, ?_⟩
  have e4 : k1.map D.str ++ (k3.map D.str ++ [.str s1, .str s2, .str [122], .str [122, 122, 122, 122, 122, 122, 122, 122]]) = (k1 ++ (k3 ++ [s1, s2, [122], [122, 122, 122, 122, 122, 122, 122, 122]])).map D.str := by simp [-Bool.exists_bool, -Bool.forall_bool]
  rw [e4]
  refine sset_strs (by simp; omega) fun k4 p3 p4 => ?_
  refine hq k4 (fun s hs => ?_) ?_
  · rcases List.mem_append.mp ((p4 s).mp hs) with z | z
    · exact hk2 s z
    · rcases List.mem_append.mp z with z | z
      · exact hk3 s z
      · simp at z
        rcases z with rfl | rfl | rfl | rfl
        · exact hs1
        · exact hs2
        · exact ⟨by decide, by decide, by decide⟩
        · exact ⟨by decide, by decide, by decide⟩
  · refine Nat.le_trans (out_len p3 p4) ?_
    simp [-Bool.exists_bool, -Bool.forall_bool]
    omega
theorem sp_at (h : HDr T) (h16 : T 2016 = some (.df 2 4 b2016)) {a : Nat} {n : Int} {hs : List Ent} (hn : n ≤ 100000) (hh : hisG n hs) (hq : ∀ x : Option Int, Q (atD x) m) : run T gv (k + 2) true 2016 [.st a, .lst (hs.map entD)] m Q X := by
  refine run_df h16 rfl ?_
  have rest : ∀ n : Int, 0 ≤ n → n ≤ 100000 → wpSs (run T gv (k + 1)) gv true b2016_1 [.st a, .lst (hs.map entD), .int n, .un] m ⟨fun _ m => Q .non m, Q, fun x _ m => X x m⟩ := by
    intro n h0 h1
    simp [b2016_1, wpSs, wpS, wpE, wpT, wpEs, wpEo, wpTo, wpIt, wpFs, wpHs, madeR, fmtD, setAll, seqD, bindP, bindPs, wipeE, startE, -Bool.exists_bool, -Bool.forall_bool]
    refine run_draw h.fD (by decide) (by decide +kernel) fun r r0 r1 => ?_
    simp [b2016_2, b2016a, wpSs, wpS, wpE, wpT, wpEs, wpEo, wpTo, wpIt, wpFs, wpHs, madeR, fmtD, setAll, seqD, bindP, bindPs, wipeE, startE, -Bool.exists_bool, -Bool.forall_bool]
    split
    · exact hq none
    · simp [b2016_3, b2016c, wpSs, wpS, wpE, wpT, wpEs, wpEo, wpTo, wpIt, wpFs, wpHs, madeR, fmtD, setAll, seqD, bindP, bindPs, wipeE, startE, -Bool.exists_bool, -Bool.forall_bool]
      split
      · exact hq (some 0)
      · simp [b2016_4, b2016e, wpSs, wpS, wpE, wpT, wpEs, wpEo, wpTo, wpIt, wpFs, wpHs, madeR, fmtD, setAll, seqD, bindP, bindPs, wipeE, startE, -Bool.exists_bool, -Bool.forall_bool]
        split
        · refine run_draw h.fD (by decide) (by decide +kernel) fun r r0 r1 => ?_
          have hr : r = 0 ∨ r = 1 := by omega
          rcases hr with rfl | rfl
          · simp [-Bool.exists_bool, -Bool.forall_bool]
            refine run_draw h.fD (by decide) (by decide +kernel) fun r r0 r1 => ?_
            exact hq (some _)
          · simp [-Bool.exists_bool, -Bool.forall_bool]
            refine run_draw h.fD (by decide) (by decide +kernel) fun r r0 r1 => ?_
            exact hq (some _)
        · simp [b2016_5, wpSs, wpS, wpE, wpT, wpEs, wpEo, wpTo, wpIt, wpFs, wpHs, madeR, fmtD, setAll, seqD, bindP, bindPs, wipeE, startE, -Bool.exists_bool, -Bool.forall_bool]
          refine run_draw h.fD (by omega) (Int.le_trans (show n + 1 ≤ 100001 by omega) (by decide +kernel)) fun r r0 r1 => ?_
          exact hq (some _)
  simp [b2016, wpSs, wpS, wpE, wpT, wpEs, wpEo, wpTo, wpIt, wpFs, wpHs, madeR, fmtD, setAll, seqD, bindP, bindPs, wipeE, startE, -Bool.exists_bool, -Bool.forall_bool]
  split
  · rename_i hne
    obtain ⟨x, e1, e2, _⟩ := atI_last (s := hs.map entD) (by simpa [neB_ne] using hne)
    obtain ⟨e, he, rfl⟩ := List.mem_map.mp e2
    refine ⟨_, e1, ?_⟩
    simp [entD]
    have := (hh.2 e he).1
    exact rest e.1 (by omega) (by omega)
  · exact rest 0 (by omega) (by omega)
end
end Pk

namespace Wk05
open PySem L2 Pk
def b12 : Ss := .cons (.ret (.or (.cmp .is (.var 1) (.non)) (.cmp .lt (.var 0) (.var 1)))) .nil
def b13 : Ss := .cons (.ret (.and (.cmp .le (.var 1) (.var 0)) (.call 12 (.cons (.var 0) (.cons (.var 2) .nil))))) .nil
def b19a : Ss := .cons (.ret (.call 13 (.cons (.var 1) (.cons (.ix (.var 0) (.int 1)) (.cons (.ix (.var 0) (.int 2)) .nil))))) .nil
def b19_1 : Ss := .cons (.ret (.cmp .eq (.ix (.var 0) (.int 1)) (.var 1))) .nil
def b19 : Ss := .cons (.ite (.cmp .eq (.ix (.var 0) (.int 0)) (.str [115, 116, 114, 101, 116, 99, 104])) b19a .nil) b19_1
def b20 : Ss := .cons (.ret (.ife (.cmp .eq (.ix (.var 0) (.int 0)) (.str [112, 117, 116])) (.ix (.var 0) (.int 2)) (.non))) .nil
def b21b : Ss := .cons (.asg (.nm 3) (.tup (.cons (.var 4) (.cons (.var 5) .nil)))) .nil
def b21a : Ss := .cons (.ite (.and (.or (.cmp .is (.var 2) (.non)) (.cmp .le (.var 4) (.var 2))) (.call 19 (.cons (.var 5) (.cons (.var 1) .nil)))) b21b .nil) .nil
def b21_2 : Ss := .cons (.ret (.var 3)) .nil
def b21_1 : Ss := .cons (.forr (.tp (.cons (.nm 4) (.cons (.nm 5) .nil))) (.seq (.var 0)) b21a) b21_2
def b21 : Ss := .cons (.asg (.nm 3) (.non)) b21_1
def b22_1 : Ss := .cons (.ret (.ife (.cmp .is (.var 3) (.non)) (.non) (.call 20 (.cons (.ix (.var 3) (.int 1)) .nil)))) .nil
def b22 : Ss := .cons (.asg (.nm 3) (.call 21 (.cons (.var 0) (.cons (.var 1) (.cons (.var 2) .nil))))) b22_1
def b23_2 : Ss := .cons (.ret (.bx (.comp [4, 5] (.tup (.cons (.var 4) (.cons (.var 5) .nil))) (.tp (.cons (.nm 4) (.cons (.nm 5) .nil))) (.seq (.var 3)) (.some (.cmp .isn (.var 5) (.non)))))) .nil
def b23_1 : Ss := .cons (.asgc 3 (.comp [4] (.tup (.cons (.var 4) (.cons (.call 22 (.cons (.var 0) (.cons (.var 4) (.cons (.var 1) .nil)))) .nil))) (.nm 4) (.seq (.var 2)) .none)) b23_2
def b23 : Ss := .cons (.asg (.nm 2) (.ssc true false [6, 7] (.ix (.var 7) (.int 1)) (.tp (.cons (.nm 6) (.cons (.nm 7) .nil))) (.seq (.var 0)) (.some (.cmp .eq (.ix (.var 7) (.int 0)) (.str [112, 117, 116]))))) b23_1
def b1003a : Ss := .cons (.ret (.sm .join (.str []) (.comp [1] (.ix (.str [97, 98, 99, 100, 101, 102, 103, 104, 105, 106, 107, 108, 109, 110, 111, 112, 113, 114, 115, 116, 117, 118, 119, 120, 121, 122]) (.call 1001 (.cons (.var 0) (.cons
  (.int 26) .nil)))) (.nm 1) (.rng (.op2 .add (.int 1) (.call 1001 (.cons (.var 0) (.cons (.int 8) .nil))))) .none))) .nil
def b1003_1 : Ss := .cons (.ret (.sm .join (.str []) (.comp [1] (.ix (.str [97, 98, 99]) (.call 1001 (.cons (.var 0) (.cons (.int 3) .nil)))) (.nm 1) (.rng (.op2 .add (.int 1) (.call 1001 (.cons (.var 0) (.cons (.int 2) .nil))))) .none)))
  .nil
def b1003 : Ss := .cons (.ite (.cmp .eq (.call 1001 (.cons (.var 0) (.cons (.int 4) .nil))) (.int 1)) b1003a .nil) b1003_1
def b2007a : Ss := .cons (.ret (.op2 .sub (.call 1001 (.cons (.var 0) (.cons (.op2 .sub (.op2 .mul (.int 2) (.op2 .pow (.int 10) (.int 30))) (.int 1)) .nil))) (.op2 .sub (.op2 .pow (.int 10) (.int 30)) (.int 1)))) .nil
def b2007_1 : Ss := .cons (.ret (.op2 .sub (.call 1001 (.cons (.var 0) (.cons (.int 19) .nil))) (.int 9))) .nil
def b2007 : Ss := .cons (.ite (.cmp .eq (.call 1001 (.cons (.var 0) (.cons (.int 4) .nil))) (.int 1)) b2007a .nil) b2007_1
def b2008a : Ss := .cons (.ret (.tup (.cons (.str [112, 117, 116]) (.cons (.var 2) (.cons (.call 2007 (.cons (.var 0) .nil)) .nil))))) .nil
def b2008c : Ss := .cons (.ret (.tup (.cons (.str [115, 116, 114, 105, 107, 101]) (.cons (.var 2) .nil)))) .nil
def b2008e : Ss := .cons (.ret (.tup (.cons (.str [115, 116, 114, 101, 116, 99, 104]) (.cons (.var 2) (.cons (.non) .nil))))) .nil
def b2008_6 : Ss := .cons (.ret (.tup (.cons (.str [115, 116, 114, 101, 116, 99, 104]) (.cons (.bi .min (.cons (.var 2) (.cons (.var 3) .nil))) (.cons (.bi .max (.cons (.var 2) (.cons (.var 3) .nil))) .nil))))) .nil
def b2008_5 : Ss := .cons (.ite (.or (.cmp .eq (.var 3) (.var 2)) (.cmp .eq (.call 1001 (.cons (.var 0) (.cons (.int 4) .nil))) (.int 1))) b2008e .nil) b2008_6
def b2008_4 : Ss := .cons (.asg (.nm 3) (.call 1003 (.cons (.var 0) .nil))) b2008_5
def b2008_3 : Ss := .cons (.ite (.cmp .lt (.var 1) (.int 6)) b2008c .nil) b2008_4
def b2008_2 : Ss := .cons (.ite (.cmp .lt (.var 1) (.int 4)) b2008a .nil) b2008_3
def b2008_1 : Ss := .cons (.asg (.nm 2) (.call 1003 (.cons (.var 0) .nil))) b2008_2
def b2008 : Ss := .cons (.asg (.nm 1) (.call 1001 (.cons (.var 0) (.cons (.int 8) .nil)))) b2008_1
def b2009a : Ss := .cons (.ret (.and (.cmp .le (.ix (.var 0) (.int 1)) (.var 1)) (.or (.cmp .is (.ix (.var 0) (.int 2)) (.non)) (.cmp .lt (.var 1) (.ix (.var 0) (.int 2)))))) .nil
def b2009_1 : Ss := .cons (.ret (.cmp .eq (.ix (.var 0) (.int 1)) (.var 1))) .nil
def b2009 : Ss := .cons (.ite (.cmp .eq (.ix (.var 0) (.int 0)) (.str [115, 116, 114, 101, 116, 99, 104])) b2009a .nil) b2009_1
def b2014b : Ss := .cons (.asg (.nm 3) (.ife (.cmp .eq (.ix (.var 5) (.int 0)) (.str [112, 117, 116])) (.ix (.var 5) (.int 2)) (.non))) .nil
def b2014a : Ss := .cons (.ite (.and (.or (.cmp .is (.var 2) (.non)) (.cmp .le (.var 4) (.var 2))) (.call 2009 (.cons (.var 5) (.cons (.var 1) .nil)))) b2014b .nil) .nil
def b2014_2 : Ss := .cons (.ret (.var 3)) .nil
def b2014_1 : Ss := .cons (.forr (.tp (.cons (.nm 4) (.cons (.nm 5) .nil))) (.seq (.var 0)) b2014a) b2014_2
def b2014 : Ss := .cons (.asg (.nm 3) (.non)) b2014_1
def b2017_2 : Ss := .cons (.ret (.comp [5] (.var 5) (.nm 5) (.seq (.var 3)) (.some (.cmp .isn (.ix (.var 5) (.int 1)) (.non))))) .nil
def b2017_1 : Ss := .cons (.asgc 3 (.comp [4] (.tup (.cons (.var 4) (.cons (.call 2014 (.cons (.var 0) (.cons (.var 4) (.cons (.var 1) .nil)))) .nil))) (.nm 4) (.seq (.var 2)) .none)) b2017_2
def b2017 : Ss := .cons (.asg (.nm 2) (.sset true (.comp [6, 7] (.ix (.var 7) (.int 1)) (.tp (.cons (.nm 6) (.cons (.nm 7) .nil))) (.seq (.var 0)) (.some (.cmp .eq (.ix (.var 7) (.int 0)) (.str [112, 117, 116])))))) b2017_1
def b1004 : Ss := .cons (.ret (.and (.isi (.var 0) [.int]) (.not (.isi (.var 0) [.bool])))) .nil
def b1005b : Ss := .cons (.ret (.bl false)) .nil
def b1005a_1 : Ss := .cons (.ret (.and (.cmp .eq (.bi .len (.cons (.var 0) .nil)) (.bi .len (.cons (.var 1) .nil))) (.bi .all (.cons (.comp [2, 3] (.call 1005 (.cons (.var 2) (.cons (.var 3) .nil))) (.tp (.cons (.nm 2) (.cons (.nm 3) .nil)))
  (.zip (.var 0) (.var 1)) .none) .nil)))) .nil
def b1005a : Ss := .cons (.ite (.or (.cmp .ne (.isi (.var 0) [.tuple]) (.isi (.var 1) [.tuple])) (.cmp .ne (.isi (.var 0) [.list]) (.isi (.var 1) [.list]))) b1005b .nil) b1005a_1
def b1005e : Ss := .cons (.ret (.cmp .is (.var 0) (.non))) .nil
def b1005g : Ss := .cons (.ret (.and (.isi (.var 0) [.str]) (.cmp .eq (.var 0) (.var 1)))) .nil
def b1005_3 : Ss := .cons (.ret (.and (.isi (.var 0) [.int]) (.and (.cmp .eq (.isi (.var 0) [.bool]) (.isi (.var 1) [.bool])) (.cmp .eq (.var 0) (.var 1))))) .nil
def b1005_2 : Ss := .cons (.ite (.isi (.var 1) [.str]) b1005g .nil) b1005_3
def b1005_1 : Ss := .cons (.ite (.cmp .is (.var 1) (.non)) b1005e .nil) b1005_2
def b1005 : Ss := .cons (.ite (.isi (.var 1) [.tuple, .list]) b1005a .nil) b1005_1
def b2015a_1 : Ss := .cons (.app (.var 2) (.tup (.cons (.var 3) (.cons (.call 2008 (.cons (.var 0) .nil)) .nil)))) .nil
def b2015a : Ss := .cons (.aug 3 .add (.op2 .add (.int 1) (.call 1001 (.cons (.var 0) (.cons (.int 3) .nil))))) b2015a_1
def b2015_4 : Ss := .cons (.ret (.var 2)) .nil
def b2015_3 : Ss := .cons (.frz 2) b2015_4
def b2015_2 : Ss := .cons (.forr (.nm 4) (.rng (.var 1)) b2015a) b2015_3
def b2015_1 : Ss := .cons (.asg (.nm 3) (.int 0)) b2015_2
def b2015 : Ss := .cons (.box 2 (.lst .nil)) b2015_1
def b2016a : Ss := .cons (.ret (.non)) .nil
def b2016c : Ss := .cons (.ret (.int 0)) .nil
def b2016e : Ss := .cons (.ret (.op2 .add (.var 2) (.call 1001 (.cons (.var 0) (.cons (.ix (.lst (.cons (.int 3) (.cons (.op2 .pow (.int 10) (.int 20)) .nil))) (.call 1001 (.cons (.var 0) (.cons (.int 2) .nil)))) .nil))))) .nil
def b2016_5 : Ss := .cons (.ret (.call 1001 (.cons (.var 0) (.cons (.op2 .add (.var 2) (.int 1)) .nil)))) .nil
def b2016_4 : Ss := .cons (.ite (.cmp .eq (.var 3) (.int 2)) b2016e .nil) b2016_5
def b2016_3 : Ss := .cons (.ite (.cmp .eq (.var 3) (.int 1)) b2016c .nil) b2016_4
def b2016_2 : Ss := .cons (.ite (.cmp .eq (.var 3) (.int 0)) b2016a .nil) b2016_3
def b2016_1 : Ss := .cons (.asg (.nm 3) (.call 1001 (.cons (.var 0) (.cons (.int 6) .nil)))) b2016_2
def b2016 : Ss := .cons (.asg (.nm 2) (.ife (.var 1) (.ix (.ix (.var 1) (.neg (.int 1))) (.int 0)) (.int 0))) b2016_1
def b2018b : Ss := .cons (.app (.var 3) (.tup (.cons (.var 4) (.cons (.var 5) .nil)))) .nil
def b2018a : Ss := .cons (.ite (.not (.bi .any (.cons (.comp [6, 7] (.call 2009 (.cons (.var 7) (.cons (.var 4) .nil))) (.tp (.cons (.nm 6) (.cons (.nm 7) .nil))) (.seq (.var 2)) .none) .nil))) b2018b .nil) .nil
def b2018_3 : Ss := .cons (.ret (.bi .sorted (.cons (.var 3) .nil))) .nil
def b2018_2 : Ss := .cons (.frz 3) b2018_3
def b2018_1 : Ss := .cons (.forr (.tp (.cons (.nm 4) (.cons (.nm 5) .nil))) (.seq (.var 0)) b2018a) b2018_2
def b2018 : Ss := .cons (.asg (.nm 3) (.bx (.bi .list (.cons (.var 1) .nil)))) b2018_1
def b1006a_1 : Ss := .cons (.ret (.bl false)) .nil
def b1006a : Ss := .cons (.frz 9) b1006a_1
def b1006c_1 : Ss := .cons (.ret (.bl false)) .nil
def b1006c : Ss := .cons (.frz 9) b1006c_1
def b1006e : Ss := .cons (.ret (.bl false)) .nil
def b1006g : Ss := .cons (.ret (.bl false)) .nil
def b1006i : Ss := .cons (.ret (.bl false)) .nil
def b1006_18 : Ss := .cons (.ret (.and (.call 1005 (.cons (.calld 23 (.cons (.bi .tuple (.cons (.var 6) .nil)) .nil) [.non]) (.cons (.call 2017 (.cons (.var 6) (.cons (.non) .nil))) .nil))) (.call 1005 (.cons (.calld 23 (.cons (.lst .nil)
  .nil) [.non]) (.cons (.lst .nil) .nil))))) .nil
def b1006_17 : Ss := .cons (.ite (.not (.call 1005 (.cons (.calld 23 (.cons (.op2 .add (.var 6) (.lst (.cons (.tup (.cons (.var 11) (.cons (.tup (.cons (.str [115, 116, 114, 101, 116, 99, 104]) (.cons (.str [97]) (.cons (.non) .nil))))
  .nil))) .nil))) .nil) [.non]) (.cons (.lst .nil) .nil)))) b1006i .nil) b1006_18
def b1006_16 : Ss := .cons (.asg (.nm 11) (.ife (.var 6) (.op2 .add (.ix (.ix (.var 6) (.neg (.int 1))) (.int 0)) (.int 1)) (.int 1))) b1006_17
def b1006_15 : Ss := .cons (.ite (.not (.call 1005 (.cons (.var 10) (.cons (.calld 23 (.cons (.var 6) .nil) [.non]) .nil)))) b1006g .nil) b1006_16
def b1006_14 : Ss := .cons (.asg (.nm 10) (.call 2018 (.cons (.calld 23 (.cons (.var 2) .nil) [.non]) (.cons (.calld 23 (.cons (.var 5) .nil) [.non]) (.cons (.var 5) .nil))))) b1006_15
def b1006_13 : Ss := .cons (.ite (.not (.call 1005 (.cons (.call 23 (.cons (.var 6) (.cons (.var 7) .nil))) (.cons (.var 8) .nil)))) b1006e .nil) b1006_14
def b1006_12 : Ss := .cons (.frz 9) b1006_13
def b1006_11 : Ss := .cons (.app (.var 9) (.tup (.cons (.str [97]) (.cons (.int 1) .nil)))) b1006_12
def b1006_10 : Ss := .cons (.ite (.not (.bi .all (.cons (.comp [14, 15] (.call 1005 (.cons (.call 22 (.cons (.var 6) (.cons (.var 14) (.cons (.var 7) .nil)))) (.cons (.var 15) .nil))) (.tp (.cons (.nm 14) (.cons (.nm 15) .nil))) (.seq (.var
  9)) .none) .nil))) b1006c .nil) b1006_11
def b1006_9 : Ss := .cons (.ite (.not (.call 1005 (.cons (.var 9) (.cons (.var 8) .nil)))) b1006a .nil) b1006_10
def b1006_8 : Ss := .cons (.asg (.nm 9) (.call 23 (.cons (.var 6) (.cons (.var 7) .nil)))) b1006_9
def b1006_7 : Ss := .cons (.asg (.nm 8) (.call 2017 (.cons (.var 6) (.cons (.var 7) .nil)))) b1006_8
def b1006_6 : Ss := .cons (.asg (.nm 7) (.call 2016 (.cons (.var 1) (.cons (.var 6) .nil)))) b1006_7
def b1006_5 : Ss := .cons (.asg (.nm 6) (.op2 .add (.var 2) (.var 5))) b1006_6
def b1006_4 : Ss := .cons (.asgc 5 (.comp [12, 13] (.tup (.cons (.op2 .add (.var 12) (.var 3)) (.cons (.var 13) .nil))) (.tp (.cons (.nm 12) (.cons (.nm 13) .nil))) (.seq (.var 4)) .none)) b1006_5
def b1006_3 : Ss := .cons (.asg (.nm 4) (.call 2015 (.cons (.var 1) (.cons (.call 1001 (.cons (.var 1) (.cons (.int 21) .nil))) .nil)))) b1006_4
def b1006_2 : Ss := .cons (.asg (.nm 3) (.ife (.var 2) (.ix (.ix (.var 2) (.neg (.int 1))) (.int 0)) (.int 0))) b1006_3
def b1006_1 : Ss := .cons (.asg (.nm 2) (.call 2015 (.cons (.var 1) (.cons (.call 1001 (.cons (.var 1) (.cons (.int 21) .nil))) .nil)))) b1006_2
def b1006 : Ss := .cons (.asg (.nm 1) (.call 1000 (.cons (.var 0) .nil))) b1006_1
def gv : Nat → D := gcGv []
/-- what the table holds -/
structure Has (T : Tb) : Prop where
  f12 : T 12 = some (.df 2 2 b12)
  f13 : T 13 = some (.df 3 3 b13)
  f19 : T 19 = some (.df 2 2 b19)
  f20 : T 20 = some (.df 1 1 b20)
  f21 : T 21 = some (.df 3 6 b21)
  f22 : T 22 = some (.df 3 4 b22)
  f23 : T 23 = some (.df 2 8 b23)
  f1003 : T 1003 = some (.df 1 2 b1003)
  f2007 : T 2007 = some (.df 1 1 b2007)
  f2008 : T 2008 = some (.df 1 4 b2008)
  f2009 : T 2009 = some (.df 2 2 b2009)
  f2014 : T 2014 = some (.df 3 6 b2014)
  f2017 : T 2017 = some (.df 2 8 b2017)
  f1004 : T 1004 = some (.df 1 1 b1004)
  f1005 : T 1005 = some (.df 2 4 b1005)
  f2015 : T 2015 = some (.df 2 5 b2015)
  f2016 : T 2016 = some (.df 2 4 b2016)
  f2018 : T 2018 = some (.df 3 8 b2018)
  f1006 : T 1006 = some (.df 1 16 b1006)
  fS : T 1000 = some .start
  fD : T 1001 = some .draw
end Wk05
namespace Wk05
open PySem L2 Pk
def lev : Nat := 20
/-! ### rows -/
abbrev Rw := List Nat × Int
def rwD (r : Rw) : D := .tup [.str r.1, .int r.2]
def pv (h : List Ent) (x : List Nat) (v : Option Int) : Option Int := (lastOn x v h none).bind fun e => opV e.2
theorem read_pv (h : List Ent) (x : List Nat) (v : Option Int) : readD h x v = atD (pv h x v) := by
  unfold readD pv
  cases lastOn x v h none with
  | none => rfl
  | some e =>
    obtain ⟨st, o⟩ := e
    cases o <;> rfl
structure Rows (hs : List Ent) (a : Option Int) (rows : List Rw) : Prop where
  up : rows.Pairwise fun p q => sltB p.1 q.1 = true
  mem : ∀ k v, (k, v) ∈ rows ↔ pv hs k a = some v
  len : rows.length ≤ hs.length
theorem rows_eq : ∀ {a b : List Rw}, (a.Pairwise fun p q => sltB p.1 q.1 = true) → (b.Pairwise fun p q => sltB p.1 q.1 = true) → (∀ x, x ∈ a ↔ x ∈ b) → a = b
  | [], [], _, _, _ => rfl
  | [], y :: b, _, _, h => by have := (h y).mpr List.mem_cons_self; cases this
  | x :: a, [], _, _, h => by have := (h x).mp List.mem_cons_self; cases this
  | x :: a, y :: b, ha, hb, h => by
    obtain ⟨a1, a2⟩ := List.pairwise_cons.mp ha
    obtain ⟨b1, b2⟩ := List.pairwise_cons.mp hb
    have e : x = y := by
      rcases List.mem_cons.mp ((h x).mp List.mem_cons_self) with z | z
      · exact z
      · rcases List.mem_cons.mp ((h y).mpr List.mem_cons_self) with w | w
        · exact w.symm
        · have := b1 x z
          rw [slt_asym (a1 y w)] at this
          cases this
    subst e
    congr 1
    refine rows_eq a2 b2 fun z => ?_
    constructor
    · intro hz
      rcases List.mem_cons.mp ((h z).mp (List.mem_cons_of_mem _ hz)) with e | e
      · have := a1 z hz
        rw [e, slt_irr] at this
        cases this
      · exact e
    · intro hz
      rcases List.mem_cons.mp ((h z).mpr (List.mem_cons_of_mem _ hz)) with e | e
      · have := b1 z hz
        rw [e, slt_irr] at this
        cases this
      · exact e
theorem Rows.uniq {hs : List Ent} {a : Option Int} {r r' : List Rw} (h : Rows hs a r) (h' : Rows hs a r') : r = r' := rows_eq h.up h'.up fun ⟨k, v⟩ => (h.mem k v).trans (h'.mem k v).symm
def putK (hs : List Ent) : List (List Nat) := (hs.filter fun e => decide (opW e.2 = sPut)).map fun e => opK e.2
theorem lastOn_mem {x : List Nat} {v : Option Int} : ∀ {h : List Ent} {acc : Option Ent} {e : Ent}, lastOn x v h acc = some e → acc = some e ∨ (e ∈ h ∧ (seenB v e.1 && touB e.2 x) = true)
  | [], _, _, h => .inl h
  | y :: r, acc, e, h => by
    have h' : lastOn x v r (if seenB v y.1 && touB y.2 x then some y else acc) = some e := h
    rcases lastOn_mem h' with z | z
    · split at z
      · rename_i q
        have := Option.some.inj z
        subst this
        exact .inr ⟨List.mem_cons_self, q⟩
      · exact .inl z
    · exact .inr ⟨List.mem_cons_of_mem _ z.1, z.2⟩
theorem pv_put {hs : List Ent} {k : List Nat} {a : Option Int} {v : Int} (h : pv hs k a = some v) : k ∈ putK hs := by
  unfold pv at h
  cases q : lastOn k a hs none with
  | none => rw [q] at h; cases h
  | some e =>
    rw [q] at h
    rcases lastOn_mem q with z | ⟨z, w⟩
    · cases z
    obtain ⟨st, o⟩ := e
    rw [Bool.and_eq_true] at w
    cases o with
    | put kk vv =>
      have e1 : kk = k := by simpa [touB] using w.2
      exact List.mem_map.mpr ⟨_, List.mem_filter.mpr ⟨z, decide_eq_true rfl⟩, e1⟩
    | strike kk => cases h
    | stretch lo hi => cases h
/-- the rows, told by the keys of the puts -/
def rowsK (hs : List Ent) (a : Option Int) (ks : List (List Nat)) : List Rw := ks.filterMap fun k => (pv hs k a).map fun v => (k, v)
theorem rows_ok {hs : List Ent} {a : Option Int} {ks : List (List Nat)} (h1 : ks.Pairwise fun a b => sltB a b = true) (h2 : ∀ x, x ∈ ks ↔ x ∈ putK hs) : Rows hs a (rowsK hs a ks) := by
  refine ⟨?_, fun k v => ?_, ?_⟩
  · unfold rowsK
    refine List.Pairwise.filterMap _ (fun x y hxy p hp q hq => ?_) h1
    obtain ⟨v, _, e1⟩ := Option.map_eq_some_iff.mp hp
    obtain ⟨w, _, e2⟩ := Option.map_eq_some_iff.mp hq
    rw [← e1, ← e2]
    exact hxy
  · unfold rowsK
    rw [List.mem_filterMap]
    constructor
    · rintro ⟨x, hx, e⟩
      obtain ⟨w, h3, e1⟩ := Option.map_eq_some_iff.mp e
      injection e1 with e1 e2
      subst e1
      subst e2
      exact h3
    · intro h
      exact ⟨k, (h2 k).mpr (pv_put h), by rw [h]; rfl⟩
  · refine Nat.le_trans (List.length_filterMap_le ..) (Nat.le_trans (out_len h1 h2) ?_)
    unfold putK
    rw [List.length_map]
    exact List.length_filter_le ..
/-- one history behind the other: now -/
theorem lastOn_acc (x : List Nat) (v : Option Int) : ∀ (h : List Ent) (acc : Option Ent), lastOn x v h acc = (match lastOn x v h none with | some e => some e | none => acc)
  | [], acc => rfl
  | y :: r, acc => by
    show lastOn x v r _ = (match lastOn x v r _ with | some e => some e | none => acc)
    rw [lastOn_acc x v r (if seenB v y.1 && touB y.2 x then some y else acc), lastOn_acc x v r (if seenB v y.1 && touB y.2 x then some y else none)]
    cases lastOn x v r none with
    | some e => rfl
    | none => cases seenB v y.1 && touB y.2 x <;> rfl
theorem lastOn_two (x : List Nat) (v : Option Int) : ∀ (a b : List Ent) (acc : Option Ent), lastOn x v (a ++ b) acc = lastOn x v b (lastOn x v a acc)
  | [], b, acc => rfl
  | y :: a, b, acc => lastOn_two x v a b _
theorem pv_two (x : List Nat) (v : Option Int) (a b : List Ent) : pv (a ++ b) x v = (match lastOn x v b none with | some e => opV e.2 | none => pv a x v) := by
  unfold pv
  rw [lastOn_two, lastOn_acc]
  cases lastOn x v b none <;> rfl
theorem last_any (x : List Nat) (b : List Ent) : (lastOn x none b none).isSome = b.any fun e => touB e.2 x := by
  have key : ∀ (b : List Ent) (acc : Option Ent), (lastOn x none b acc).isSome = (acc.isSome || b.any fun e => touB e.2 x) := by
    intro b
    induction b with
    | nil => intro acc; simp [lastOn]
    | cons y r ih =>
      intro acc
      show (lastOn x none r (if seenB none y.1 && touB y.2 x then some y else acc)).isSome = _
      rw [ih, List.any_cons]
      cases touB y.2 x <;> simp [seenB]
  rw [key]
  rfl
section
variable {T : Tb} {k : Nat} {m : Mu} {Q : Pq} {X : Px}
theorem sp_ltouch (h : T 2009 = some (.df 2 2 b2009)) {o : Op} {s : List Nat} (hq : Q (.bl (touB o s)) m) : run T gv (k + 1) true 2009 [opD o, .str s] m Q X := by
  refine run_df h rfl ?_
  simp [b2009, b2009a, b2009_1, wpSs, wpS, wpE, wpT, wpEs, wpEo, wpTo, wpIt, wpFs, wpHs, madeR, fmtD, setAll, seqD, bindP, bindPs, wipeE, startE, -Bool.exists_bool, -Bool.forall_bool]
  cases o with
  | put kk v => simpa [opW, sPut, touB] using hq
  | strike kk => simpa [opW, sStrike, touB] using hq
  | stretch lo hi =>
    simp [opW, sStretch, opD, -Bool.exists_bool, -Bool.forall_bool]
    cases hi with
    | none =>
      simp [oD, -Bool.exists_bool, -Bool.forall_bool]
      cases e : sltB s lo with
      | true => simpa [touB, e] using hq
      | false => simpa [touB, e, belowB] using hq
    | some u =>
      simp [oD, -Bool.exists_bool, -Bool.forall_bool]
      cases e : sltB s lo with
      | true => simpa [touB, e] using hq
      | false => simpa [touB, e, belowB] using hq
theorem read_app (hs : List Ent) (e : Ent) (s : List Nat) (a : Option Int) : readD (hs ++ [e]) s a = if seenB a e.1 && touB e.2 s then toldD e.2 else readD hs s a := by
  unfold readD
  rw [lastOn_app]
  by_cases hc : (seenB a e.1 && touB e.2 s) = true
  · rw [if_pos hc, if_pos hc]
  · rw [if_neg hc, if_neg hc]
@[simp] theorem un_read (hs : List Ent) (s : List Nat) (a : Option Int) : isUn (readD hs s a) = false := by rw [read_pv]; cases pv hs s a <;> rfl
@[simp] theorem rd_read (m : Mu) (hs : List Ent) (s : List Nat) (a : Option Int) : rd m (readD hs s a) = readD hs s a := by rw [read_pv]; cases pv hs s a <;> rfl
theorem told_if (o : Op) (Q : D → Prop) (hq : Q (toldD o)) : if opW o = sPut then ixR (opD o) (.int 2) Q else Q .non := by
  cases o with
  | put kk v =>
    simp [opW, opD]
    exact hq
  | strike kk => simpa [opW, sPut, sStrike, toldD] using hq
  | stretch lo hi => simpa [opW, sPut, sStretch, toldD] using hq
theorem sp_lread (h14 : T 2014 = some (.df 3 6 b2014)) (h09 : T 2009 = some (.df 2 2 b2009)) {hs : List Ent} {s : List Nat} {a : Option Int} (hq : Q (readD hs s a) m) : run T gv (k + 2) true 2014 [.lst (hs.map entD), .str s, atD a] m Q X := by
  refine run_df h14 rfl ?_
  simp [b2014, wpSs, wpS, wpE, wpT, wpEs, wpEo, wpTo, wpIt, wpFs, wpHs, madeR, fmtD, setAll, seqD, bindP, bindPs, wipeE, startE, -Bool.exists_bool, -Bool.forall_bool]
  simp [b2014_1, wpSs, wpS, wpE, wpT, wpEs, wpEo, wpTo, wpIt, wpFs, wpHs, madeR, fmtD, setAll, seqD, bindP, bindPs, wipeE, startE, -Bool.exists_bool, -Bool.forall_bool]
  refine for_mp entD (fun i σ m2 => ∃ d4 d5 : D, σ = [.lst (hs.map entD), .str s, atD a, readD (hs.take i) s a, d4, d5] ∧ m2 = m) (fun _ _ m _ => gd_nilS m) hs ⟨_, _, rfl, rfl⟩ ?_ ?_
  · rintro j e σ m2 hj ⟨d4, d5, rfl, rfl⟩
    refine ⟨_, rfl, fun nx hnx => ?_⟩
    have step : nx [.lst (hs.map entD), .str s, atD a, if seenB a e.1 && touB e.2 s then toldD e.2 else readD (hs.take j) s a, .int e.1, opD e.2] m2 := hnx _ _ ⟨_, _, by rw [take_snoc hj, read_app], rfl⟩
    simp [b2014a, b2014b, wpSs, wpS, wpE, wpT, wpEs, wpEo, wpTo, wpIt, wpFs, wpHs, madeR, fmtD, setAll, seqD, bindP, bindPs, wipeE, startE, -Bool.exists_bool, -Bool.forall_bool]
    have rest : ∀ {v : Bool}, seenB a e.1 = v → (if v = true then run T gv (k + 1) true 2009 [opD e.2, .str s] m2 (fun d_1 m1 => ∃ k, truD (rd m1 d_1) = some k ∧ if k = true then (if opW e.2 = sPut then ixR (opD e.2) (.int 2) fun d => nx [.lst (hs.map entD), .str s, atD a, d, .int e.1, opD e.2] m1 else nx [.lst (hs.map entD), .str s, atD a, .non, .int e.1, opD e.2] m1) else nx [.lst (hs.map entD), .str s, atD a, readD (hs.take j) s a, .int e.1, opD e.2] m1) X else nx [.lst (hs.map entD), .str s, atD a, readD (hs.take j) s a, .int e.1, opD e.2] m2) := by
      intro v hv
      rw [hv] at step
      cases v with
      | false => exact (if_neg (by decide)).mpr step
      | true =>
        refine (if_pos rfl).mpr (sp_ltouch (k := k) h09 ⟨_, rfl, ?_⟩)
        cases ht : touB e.2 s with
        | true =>
          rw [ht] at step
          refine (if_pos rfl).mpr (told_if e.2 (fun d => nx [.lst (hs.map entD), .str s, atD a, d, .int e.1, opD e.2] m2) ?_)
          exact step
        | false =>
          rw [ht] at step
          exact (if_neg (by decide)).mpr step
    cases a with
    | none => exact (if_pos rfl).mpr ((if_pos rfl).mp (rest (v := true) rfl))
    | some i => exact (if_neg (fun z => by cases z)).mpr (rest (v := decide (e.1 ≤ i)) rfl)
  · rintro σ m2 ⟨d4, d5, rfl, rfl⟩
    rw [List.take_length]
    simp [b2014_2, wpSs, wpS, wpE, wpT, wpEs, wpEo, wpTo, wpIt, wpFs, wpHs, madeR, fmtD, setAll, seqD, bindP, bindPs, wipeE, startE, -Bool.exists_bool, -Bool.forall_bool]
    exact hq
theorem compB_mp {α : Type} (g : α → D) (f : α → List D) {gs : List (Nat × List D)} {p : Pt} {body : Pk.Env → Mu → List D → (List D → Mu → Prop) → Prop} {σ : Pk.Env} {m : Mu} (N : Nat) (hg : Gd gs m) : ∀ (xs : List α) (acc : List D) (Q : List D → Mu → Prop),
    (∀ x ∈ xs, ∃ σ', bindP p (g x) σ = some σ' ∧ ∀ (acc : List D) (R : List D → Mu → Prop), acc.length + (f x).length ≤ N → R (acc ++ f x) m → body σ' m acc R) → acc.length + (xs.flatMap f).length ≤ N → Q (acc ++ xs.flatMap f) m → compB gs p body σ (xs.map g) m acc Q
  | [], acc, Q, _, _, hq => ⟨hg, by simpa using hq⟩
  | x :: xs, acc, Q, h, hl, hq => by
    obtain ⟨σ', h1, h2⟩ := h x List.mem_cons_self
    rw [List.flatMap_cons, List.length_append] at hl
    refine ⟨hg, σ', h1, h2 acc _ (by omega) ?_⟩
    refine compB_mp g f N hg xs (acc ++ f x) Q (fun y hy => h y (List.mem_cons_of_mem _ hy)) (by rw [List.length_append]; omega) ?_
    rw [List.append_assoc, ← List.flatMap_cons]
    exact hq
theorem rows_D (hs : List Ent) (a : Option Int) (ks : List (List Nat)) : ks.filterMap (fun k => (pv hs k a).map fun v => rwD (k, v)) = (rowsK hs a ks).map rwD := by
  unfold rowsK
  rw [← fm_map]
  congr 1
  funext k
  cases pv hs k a <;> rfl
theorem sp_lrows (h17 : T 2017 = some (.df 2 8 b2017)) (h14 : T 2014 = some (.df 3 6 b2014)) (h09 : T 2009 = some (.df 2 2 b2009)) {hs : List Ent} (hl : hs.length ≤ 1000) {a : Option Int} (hq : ∀ rows, Rows hs a rows → Q (.lst (rows.map rwD)) m) : run T gv (k + 3) true 2017 [.lst (hs.map entD), atD a] m Q X := by
  refine run_df h17 rfl ?_
  simp [b2017, wpSs, wpS, wpE, wpT, wpEs, wpEo, wpTo, wpIt, wpFs, wpHs, madeR, fmtD, setAll, seqD, bindP, bindPs, wipeE, startE, -Bool.exists_bool, -Bool.forall_bool]
  refine comp_mp entD (fun e => if decide (opW e.2 = sPut) = true then some (.str (opK e.2)) else none) (gd_nilS m) hs [] _ (fun e he => ⟨_, rfl, fun R hR => ?_⟩) ?_
  · simp [-Bool.exists_bool, -Bool.forall_bool]
    by_cases z : opW e.2 = sPut
    · rw [if_pos (decide_eq_true z)] at hR
      exact (if_pos z).mpr hR
    · rw [if_neg (by simpa using z)] at hR
      exact (if_neg z).mpr hR
  rw [List.nil_append, fm_if (fun e : Ent => decide (opW e.2 = sPut))]
  have e1 : ((hs.filter fun e : Ent => decide (opW e.2 = sPut)).map fun e => D.str (opK e.2)) = (putK hs).map .str := by unfold putK; rw [List.map_map]; rfl
  rw [e1]
  have lp : (putK hs).length ≤ hs.length := by unfold putK; rw [List.length_map]; exact List.length_filter_le ..
  refine sset_strs (by omega) fun ks k1 k2 => ?_
  simp [b2017_1, wpSs, wpS, wpE, wpT, wpEs, wpEo, wpTo, wpIt, wpFs, wpHs, madeR, fmtD, setAll, seqD, bindP, bindPs, wipeE, startE, -Bool.exists_bool, -Bool.forall_bool]
  refine comp_map D.str (fun x => .tup [.str x, atD (pv hs x a)]) (gd_nilS m) ks _ (fun x hx => ⟨_, rfl, fun R hR => ?_⟩) ?_
  · simp [-Bool.exists_bool, -Bool.forall_bool]
    refine sp_lread (k := k) h14 h09 ?_
    rw [read_pv]
    exact hR
  simp [b2017_2, wpSs, wpS, wpE, wpT, wpEs, wpEo, wpTo, wpIt, wpFs, wpHs, madeR, fmtD, setAll, seqD, bindP, bindPs, wipeE, startE, -Bool.exists_bool, -Bool.forall_bool]
  refine comp_mp (fun x => D.tup [.str x, atD (pv hs x a)]) (fun x => (pv hs x a).map fun v => rwD (x, v)) (gd_nilS m) ks [] _ (fun x hx => ⟨_, rfl, fun R hR => ?_⟩) ?_
  · cases z : pv hs x a with
    | none =>
      rw [z] at hR
      simp [atD, -Bool.exists_bool, -Bool.forall_bool]
      exact hR
    | some v =>
      rw [z] at hR
      simp [atD, -Bool.exists_bool, -Bool.forall_bool]
      exact hR
  rw [List.nil_append, rows_D]
  exact hq _ (rows_ok k1 k2)
structure HPr (T : Tb) : Prop where
  f12 : T 12 = some (.df 2 2 b12)
  f13 : T 13 = some (.df 3 3 b13)
  f19 : T 19 = some (.df 2 2 b19)
  f20 : T 20 = some (.df 1 1 b20)
  f21 : T 21 = some (.df 3 6 b21)
  f22 : T 22 = some (.df 3 4 b22)
  f23 : T 23 = some (.df 2 8 b23)
theorem sp_rows (h : HPr T) {hs : List Ent} (hl : hs.length ≤ 1000) {a : Option Int} {d : D} (hd : d = .lst (hs.map entD) ∨ d = .tup (hs.map entD)) (hq : ∀ rows b, Rows hs a rows → m b = none → Q (.ref b) (mup m b (some (.lst (rows.map rwD))))) : run T gv (k + 6) true 23 [d, atD a] m Q X := by
  refine run_df h.f23 rfl ?_
  have hu : isUn d = false := by rcases hd with rfl | rfl <;> rfl
  have ef : hs.flatMap (fun e => if opW e.2 = sPut then [D.str (opK e.2)] else []) = (putK hs).map .str := by
    unfold putK
    clear hl hd hq
    induction hs with
    | nil => rfl
    | cons e r ih =>
      rw [List.flatMap_cons, List.filter_cons, ih]
      by_cases z : opW e.2 = sPut
      · rw [if_pos z, decide_eq_true z, if_pos rfl]; rfl
      · rw [if_neg z, decide_eq_false z, if_neg (by decide)]; rfl
  have lp : (putK hs).length ≤ hs.length := by unfold putK; rw [List.length_map]; exact List.length_filter_le ..
  have rest : ∀ ks : List (List Nat), (ks.Pairwise fun a b => sltB a b = true) → (∀ x, x ∈ ks ↔ x ∈ putK hs) → wpSs (run T gv (k + 5)) gv true b23_1 [d, atD a, .lst (ks.map .str), .un, .un, .un, .un, .un] m ⟨fun _ m => Q .non m, Q, fun x _ m => X x m⟩ := by
    intro ks k1 k2
    simp [b23_1, wpSs, wpS, wpE, wpT, wpEs, wpEo, wpTo, wpIt, wpFs, wpHs, madeR, fmtD, setAll, seqD, bindP, bindPs, wipeE, startE, -Bool.exists_bool, -Bool.forall_bool]
    refine comp_map D.str (fun x => .tup [.str x, atD (pv hs x a)]) (gd_nilS m) ks _ (fun x hx => ⟨_, rfl, fun R hR => ?_⟩) ?_
    · simp [-Bool.exists_bool, -Bool.forall_bool]
      refine ⟨hu, ?_⟩
      refine sp_plain (k := k) h.f12 h.f13 h.f19 h.f20 h.f21 h.f22 hd ?_
      rw [read_pv]
      exact hR
    simp [b23_2, wpSs, wpS, wpE, wpT, wpEs, wpEo, wpTo, wpIt, wpFs, wpHs, madeR, fmtD, setAll, seqD, bindP, bindPs, wipeE, startE, -Bool.exists_bool, -Bool.forall_bool]
    refine comp_mp (fun x => D.tup [.str x, atD (pv hs x a)]) (fun x => (pv hs x a).map fun v => rwD (x, v)) (gd_nilS m) ks [] _ (fun x hx => ⟨_, rfl, fun R hR => ?_⟩) ?_
    · cases z : pv hs x a with
      | none =>
        rw [z] at hR
        simp [atD, -Bool.exists_bool, -Bool.forall_bool]
        exact hR
      | some v =>
        rw [z] at hR
        simp [atD, -Bool.exists_bool, -Bool.forall_bool]
        exact hR
    rw [List.nil_append, rows_D]
    exact fun b hb => hq _ b (rows_ok k1 k2) hb
  have body : ∀ σ0 : Pk.Env, σ0 = [d, atD a, .un, .un, .un, .un, .un, .un] → compB [] (.tp (.cons (.nm 6) (.cons (.nm 7) .nil))) (fun σ2 m2 acc R => wpTo (run T gv (k + 5)) gv true (.some (.cmp .eq (.ix (.var 7) (.int 0)) (.str [112, 117, 116]))) σ2 m2 (fun b m3 =>
      if b = true then wpE (run T gv (k + 5)) gv true (.ix (.var 7) (.int 1)) σ2 m3 (fun d m4 => kiB false d = true ∧ acc.length + 1 < 4000 ∧ R (acc ++ [d]) m4) NoX else R acc m3) NoX) σ0 (hs.map entD) m [] fun acc m2 => ssR true (.lst acc) fun d2 => wpSs (run T gv (k + 5)) gv true b23_1 [d, atD a, d2, .un, .un, .un, .un, .un] m2 ⟨fun _ m => Q .non m, Q, fun x _ m => X x m⟩ := by
    intro σ0 e0
    subst e0
    refine compB_mp entD (fun e => if opW e.2 = sPut then [D.str (opK e.2)] else []) 1000 (gd_nilS m) hs [] _ (fun e he => ⟨_, rfl, fun acc R h1 h2 => ?_⟩) (by rw [ef, List.length_map]; simp; omega) ?_
    · simp [wpTo, wpT, wpE, -Bool.exists_bool, -Bool.forall_bool]
      by_cases z : opW e.2 = sPut
      · rw [if_pos z] at h1 h2
        rw [List.length_singleton] at h1
        refine (if_pos z).mpr ⟨rfl, by omega, h2⟩
      · rw [if_neg z] at h2
        refine (if_neg z).mpr ?_
        simpa using h2
    rw [ef, List.nil_append]
    exact sset_strs (by omega) rest
  rcases hd with rfl | rfl
  · simp [b23, wpSs, wpS, wpE, wpT, wpEs, wpEo, wpTo, wpIt, wpFs, wpHs, madeR, fmtD, setAll, seqD, bindP, bindPs, wipeE, startE, -Bool.exists_bool, -Bool.forall_bool]
    have := body _ rfl
    simp [wpSs, wpS, wpE, wpT, wpEs, wpEo, wpTo, wpIt, wpFs, wpHs, madeR, fmtD, setAll, seqD, bindP, bindPs, wipeE, startE, -Bool.exists_bool, -Bool.forall_bool] at this
    exact this
  · simp [b23, wpSs, wpS, wpE, wpT, wpEs, wpEo, wpTo, wpIt, wpFs, wpHs, madeR, fmtD, setAll, seqD, bindP, bindPs, wipeE, startE, -Bool.exists_bool, -Bool.forall_bool]
    have := body _ rfl
    simp [wpSs, wpS, wpE, wpT, wpEs, wpEo, wpTo, wpIt, wpFs, wpHs, madeR, fmtD, setAll, seqD, bindP, bindPs, wipeE, startE, -Bool.exists_bool, -Bool.forall_bool] at this
    exact this
theorem sp_same_rl (h : T 1005 = some (.df 2 4 Pk.b1005)) {n b : Nat} {ds : List D} (hb : m b = some (.lst ds)) (hp : plL n ds = true) (hq : Q (.bl true) m) : run T gv (k + n + 2) true 1005 [.ref b, .lst ds] m Q X := by
  refine run_df h rfl ?_
  simp [Pk.b1005, wpSs, wpS, wpE, wpT, wpEs, wpEo, wpTo, wpIt, wpFs, wpHs, madeR, fmtD, setAll, seqD, bindP, bindPs, wipeE, startE, -Bool.exists_bool, -Bool.forall_bool, rd_nonS, zip_self, rd_refS hb]
  have eg : gsR m (.ref b) = [(b, ds)] := by simp [gsR, hb]
  simp only [biR, rd_refS hb, eg]
  refine ⟨.inl rfl, ?_⟩
  refine (if_pos (by simp [eqD])).mpr ?_
  refine compL_map (fun _ => .bl true) (gd_one hb) _ _ _ (fun d hd => ?_) ?_
  · obtain ⟨e, he, rfl⟩ := List.mem_map.mp hd
    refine ⟨_, rfl, fun R hR => ?_⟩
    have hpe : plD n e = true := plL_mem hp he
    have hu : isUn e = false := by cases e <;> first | rfl | (cases n <;> cases hpe)
    exact ⟨_, rfl, hu, _, rfl, hu, sp_same_refl h n k hpe hR⟩
  · simp
    refine ⟨_, (congrArg blsD (List.map_const' ..)).trans (bls_true _), ?_⟩
    simpa using hq
theorem sp_same_lr (h : T 1005 = some (.df 2 4 Pk.b1005)) {n b : Nat} {ds : List D} (hb : m b = some (.lst ds)) (hp : plL n ds = true) (hq : Q (.bl true) m) : run T gv (k + n + 2) true 1005 [.lst ds, .ref b] m Q X := by
  refine run_df h rfl ?_
  simp [Pk.b1005, wpSs, wpS, wpE, wpT, wpEs, wpEo, wpTo, wpIt, wpFs, wpHs, madeR, fmtD, setAll, seqD, bindP, bindPs, wipeE, startE, -Bool.exists_bool, -Bool.forall_bool, rd_nonS, zip_self, rd_refS hb]
  have eg : gsR m (.ref b) = [(b, ds)] := by simp [gsR, hb]
  simp only [biR, rd_refS hb, eg]
  refine ⟨.inl rfl, ?_⟩
  refine (if_pos (by simp [eqD])).mpr ?_
  refine compL_map (fun _ => .bl true) (gd_one hb) _ _ _ (fun d hd => ?_) ?_
  · obtain ⟨e, he, rfl⟩ := List.mem_map.mp hd
    refine ⟨_, rfl, fun R hR => ?_⟩
    have hpe : plD n e = true := plL_mem hp he
    have hu : isUn e = false := by cases e <;> first | rfl | (cases n <;> cases hpe)
    exact ⟨_, rfl, hu, _, rfl, hu, sp_same_refl h n k hpe hR⟩
  · simp
    refine ⟨_, (congrArg blsD (List.map_const' ..)).trans (bls_true _), ?_⟩
    simpa using hq
theorem pl_rows : ∀ rows : List Rw, plL 1 (rows.map rwD) = true
  | [] => rfl
  | x :: r => by
    rw [List.map_cons]
    unfold plL
    rw [pl_rows r]
    rfl
def laidL (r1 r2 : List Rw) (hs : List Ent) : List Rw := r2 ++ r1.filter fun r => !hs.any fun e => touB e.2 r.1
theorem mup_ne {m : Mu} {b c : Nat} {o : Option Ob} (h : b ≠ c) : mup m c o b = m b := if_neg h
theorem sp_laid (h18 : T 2018 = some (.df 3 8 b2018)) (h09 : T 2009 = some (.df 2 2 b2009)) {r1 r2 : List Rw} {hs : List Ent} {b1 b2 : Nat} (hb1 : m b1 = some (.lst (r1.map rwD))) (hb2 : m b2 = some (.lst (r2.map rwD))) (l1 : r1.length ≤ 1000) (l2 : r2.length ≤ 1000) (nd : ((laidL r1 r2 hs).map fun r => r.1).Nodup)
    (hq : ∀ ys : List Rw, ys.Perm (laidL r1 r2 hs) → (ys.Pairwise fun p q => sltB p.1 q.1 = true) → Q (.lst (ys.map rwD)) m) : run T gv (k + 2) true 2018 [.ref b1, .ref b2, .lst (hs.map entD)] m Q X := by
  refine run_df h18 rfl ?_
  have big : (line : Nat) = 16777216 := rfl
  simp [b2018, wpSs, wpS, wpE, wpT, wpEs, wpEo, wpTo, wpIt, wpFs, wpHs, madeR, fmtD, setAll, seqD, bindP, bindPs, wipeE, startE, -Bool.exists_bool, -Bool.forall_bool]
  show (match rd m (.ref b2) with
    | .lst ds => _
    | .tup ds => _
    | _ => False)
  rw [rd_refS hb2]
  intro b3 hb3
  have n1 : b1 ≠ b3 := fun e => by rw [e, hb3] at hb1; cases hb1
  have at1 : ∀ o, mup m b3 o b1 = some (.lst (r1.map rwD)) := fun o => by rw [mup_ne n1]; exact hb1
  simp [b2018_1, wpSs, wpS, wpE, wpT, wpEs, wpEo, wpTo, wpIt, wpFs, wpHs, madeR, fmtD, setAll, seqD, bindP, bindPs, wipeE, startE, -Bool.exists_bool, -Bool.forall_bool]
  refine ⟨_, at1 _, ?_⟩
  refine for_mp rwD (fun i σ m2 => ∃ x4 x5 : D, σ = [.ref b1, .ref b2, .lst (hs.map entD), .ref b3, x4, x5, .un, .un] ∧ m2 = mup m b3 (some (.lst ((laidL (r1.take i) r2 hs).map rwD))) ∧ (laidL (r1.take i) r2 hs).length ≤ 1000 + i) (fun i σ m2 ⟨_, _, _, e, _⟩ => by rw [e]; exact gd_one (at1 _)) r1 ⟨_, _, rfl, by simp [laidL], by simp [laidL]; omega⟩ (fun j r σ m2 hj hi => ?_) fun σ m2 hi => ?_
  · obtain ⟨x4, x5, rfl, rfl, hln⟩ := hi
    have hj2 : j < r1.length := (List.getElem?_eq_some_iff.mp hj).1
    refine ⟨_, rfl, fun nx hnx => ?_⟩
    have e1 : laidL (r1.take (j + 1)) r2 hs = laidL (r1.take j) r2 hs ++ if (!hs.any fun e => touB e.2 r.1) = true then [r] else [] := by
      unfold laidL
      rw [take_snoc hj, List.filter_append, List.append_assoc]
      congr 2
      rw [List.filter_cons]
      cases (!hs.any fun e => touB e.2 r.1) <;> rfl
    have l1' : (laidL (r1.take (j + 1)) r2 hs).length ≤ 1000 + (j + 1) := by
      rw [e1, List.length_append]
      split <;> simp <;> omega
    have go := hnx [.ref b1, .ref b2, .lst (hs.map entD), .ref b3, .str r.1, .int r.2, .un, .un] (mup m b3 (some (.lst ((laidL (r1.take (j + 1)) r2 hs).map rwD)))) ⟨_, _, rfl, rfl, l1'⟩
    rw [e1] at go
    simp [b2018a, wpSs, wpS, wpE, wpT, wpEs, wpEo, wpTo, wpIt, wpFs, wpHs, madeR, fmtD, setAll, seqD, bindP, bindPs, wipeE, startE, -Bool.exists_bool, -Bool.forall_bool]
    refine comp_map entD (fun e => .bl (touB e.2 r.1)) (gd_nilS _) hs _ (fun e he => ⟨_, rfl, fun R hR => ?_⟩) ?_
    · simp [-Bool.exists_bool, -Bool.forall_bool]
      exact sp_ltouch (k := k) h09 hR
    refine ⟨_, bl_map _ _, ?_⟩
    generalize laidL (r1.take j) r2 hs = acc at go hln ⊢
    rw [ite_mem]
    cases z : hs.any fun e => touB e.2 r.1 with
    | true =>
      rw [z] at go
      simp at go
      exact (if_pos rfl).mpr go
    | false =>
      rw [z] at go
      simp at go
      simp [b2018b, wpSs, wpS, wpE, wpT, wpEs, wpEo, wpTo, wpIt, wpFs, wpHs, madeR, fmtD, setAll, seqD, bindP, bindPs, wipeE, startE, -Bool.exists_bool, -Bool.forall_bool, mup_at, mup_mup]
      exact ⟨by omega, go⟩
  · obtain ⟨x4, x5, rfl, rfl, hln⟩ := hi
    rw [List.take_length] at hln ⊢
    simp [b2018_2, wpSs, wpS, wpE, wpT, wpEs, wpEo, wpTo, wpIt, wpFs, wpHs, madeR, fmtD, setAll, seqD, bindP, bindPs, wipeE, startE, -Bool.exists_bool, -Bool.forall_bool, mup_at, mup_mup, mup_back hb3]
    simp [b2018_3, wpSs, wpS, wpE, wpT, wpEs, wpEo, wpTo, wpIt, wpFs, wpHs, madeR, fmtD, setAll, seqD, bindP, bindPs, wipeE, startE, -Bool.exists_bool, -Bool.forall_bool]
    refine sorted_rows .si rwD (fun r => [.s r.1, .i r.2]) (fun r => rfl) ?_ fun ys yp yw => hq ys yp ?_
    · refine List.pairwise_map.mpr ((List.pairwise_map.mp nd).imp fun {a b} z e => z ?_)
      injection e with e
      injection e
    · have nd2 : ys.Pairwise fun p q => p.1 ≠ q.1 := List.pairwise_map.mp ((yp.map _).nodup_iff.mpr nd)
      refine (yw.and nd2).imp fun {p q} z => ?_
      have z1 : (sltB p.1 q.1 || (decide (p.1 = q.1) && kyLt [.i p.2] [.i q.2])) = true := z.1
      rw [decide_eq_false z.2, Bool.false_and, Bool.or_false] at z1
      exact z1
theorem laid_ok {one other : List Ent} {r1 r2 ys : List Rw} (h1 : Rows one none r1) (h2 : Rows other none r2) (hp : ys.Perm (laidL r1 r2 other)) (hu : ys.Pairwise fun p q => sltB p.1 q.1 = true) : ys.Pairwise (fun p q => sltB p.1 q.1 = true) ∧ ∀ k v, (k, v) ∈ ys ↔ pv (one ++ other) k none = some v := by
  refine ⟨hu, fun k v => ?_⟩
  rw [hp.mem_iff, pv_two]
  unfold laidL
  rw [List.mem_append, List.mem_filter, h1.mem, h2.mem]
  have la := last_any k other
  unfold pv
  cases q : lastOn k none other none with
  | some e =>
    rw [q] at la
    have la : true = other.any fun e => touB e.2 k := la
    simp [← la]
  | none =>
    rw [q] at la
    have la : false = other.any fun e => touB e.2 k := la
    simp [← la]
theorem laid_nd {one other : List Ent} {r1 r2 : List Rw} (h1 : Rows one none r1) (h2 : Rows other none r2) : ((laidL r1 r2 other).map fun r => r.1).Nodup := by
  have up : ∀ {r : List Rw}, (r.Pairwise fun p q => sltB p.1 q.1 = true) → (r.map fun r => r.1).Nodup := fun h => List.pairwise_map.mpr (h.imp fun {a b} z e => by rw [e, slt_irr] at z; cases z)
  unfold laidL
  rw [List.map_append]
  refine List.nodup_append.mpr ⟨up h2.up, up (h1.up.filter _), fun a ha b hb e => ?_⟩
  obtain ⟨⟨k, v⟩, hk, rfl⟩ := List.mem_map.mp ha
  obtain ⟨⟨k2, v2⟩, hk2, rfl⟩ := List.mem_map.mp hb
  have e : k = k2 := e
  subst e
  have hv := (h2.mem k v).mp hk
  have hn := (List.mem_filter.mp hk2).2
  have la := last_any k other
  unfold pv at hv
  cases q : lastOn k none other none with
  | none => rw [q] at hv; cases hv
  | some e =>
    rw [q] at la
    have la : true = other.any fun e => touB e.2 k := la
    have hn : (!other.any fun e => touB e.2 k) = true := hn
    rw [← la] at hn
    cases hn
theorem atI_mp {α β : Type} (f : α → β) (xs : List α) (i : Int) : L2.atI (xs.map f) i = (L2.atI xs i).map f := by
  unfold L2.atI
  rw [List.length_map]
  cases L2.ixN xs.length i with
  | none => rfl
  | some n => simp
theorem plain (h : Has T) (ns : List Int) (hl : ns.length ≤ 63) (hb : ∀ z ∈ ns, PySem.Builtin.Int.intBits z ≤ 1048576) : run T gv (lev + 1) true 1006 [.scr ns] (fun _ => none) (fun r _ => r = .bl true) NoX := by
  have hdr : HDr T := ⟨h.fD, h.f1003, h.f2007, h.f2008⟩
  have hpr : HPr T := ⟨h.f12, h.f13, h.f19, h.f20, h.f21, h.f22, h.f23⟩
  have lrows := @sp_lrows T
  refine run_df h.f1006 rfl ?_
  have big : (line : Nat) = 16777216 := rfl
  simp [b1006, wpSs, wpS, wpE, wpT, wpEs, wpEo, wpTo, wpIt, wpFs, wpHs, madeR, fmtD, setAll, seqD, bindP, bindPs, wipeE, startE, -Bool.exists_bool, -Bool.forall_bool]
  refine run_start h.fS hl hb fun a => ?_
  simp [b1006_1, wpSs, wpS, wpE, wpT, wpEs, wpEo, wpTo, wpIt, wpFs, wpHs, madeR, fmtD, setAll, seqD, bindP, bindPs, wipeE, startE, -Bool.exists_bool, -Bool.forall_bool]
  refine run_draw h.fD (by decide) (by decide +kernel) fun r r0 r1 => ?_
  refine sp_hist (k := lev - 4) hdr h.f2015 (by omega) (by omega) (fun _ => .inr trivial) fun one ho lo => ?_
  have rest : ∀ last : Int, 0 ≤ last → last ≤ 100 → (∀ e ∈ one, e.1 ≤ last) → wpSs (run T gv lev) gv true b1006_3 [.scr ns, .st a, .lst (one.map entD), .int last, .un, .un, .un, .un, .un, .un, .un, .un, .un, .un, .un, .un] (fun _ => none) ⟨fun _ _ => False, fun r _ => r = .bl true, fun x _ m => NoX x m⟩ := by
    intro last t0 t1 hlast
    simp [b1006_3, wpSs, wpS, wpE, wpT, wpEs, wpEo, wpTo, wpIt, wpFs, wpHs, madeR, fmtD, setAll, seqD, bindP, bindPs, wipeE, startE, -Bool.exists_bool, -Bool.forall_bool]
    refine run_draw h.fD (by decide) (by decide +kernel) fun r2 q0 q1 => ?_
    refine sp_hist (k := lev - 4) hdr h.f2015 (by omega) (by omega) (fun _ => .inr trivial) fun more hm lm => ?_
    simp [b1006_4, wpSs, wpS, wpE, wpT, wpEs, wpEo, wpTo, wpIt, wpFs, wpHs, madeR, fmtD, setAll, seqD, bindP, bindPs, wipeE, startE, -Bool.exists_bool, -Bool.forall_bool]
    refine comp_map entD (fun e => entD (e.1 + last, e.2)) (gd_nilS _) more _ (fun e he => ⟨_, rfl, fun R hR => ?_⟩) ?_
    · simp [-Bool.exists_bool, -Bool.forall_bool]
      exact hR
    have eo : more.map (fun e : Ent => entD (e.1 + last, e.2)) = (more.map fun e : Ent => ((e.1 + last, e.2) : Ent)).map entD := by rw [List.map_map]; rfl
    rw [eo]
    have ho2 : hisG 1000 (one ++ more.map fun e : Ent => ((e.1 + last, e.2) : Ent)) := by
      refine ⟨List.pairwise_append.mpr ⟨ho.1, List.pairwise_map.mpr (hm.1.imp fun {x y} z => by show x.1 + last < y.1 + last; omega), fun x hx y hy => ?_⟩, fun e he => ?_⟩
      · obtain ⟨z, hz, rfl⟩ := List.mem_map.mp hy
        have := hlast x hx
        have := (hm.2 z hz).1
        show x.1 < z.1 + last
        omega
      · rcases List.mem_append.mp he with z | z
        · have := ho.2 e z
          exact ⟨by omega, this.2⟩
        · obtain ⟨y, hy, rfl⟩ := List.mem_map.mp z
          have := hm.2 y hy
          refine ⟨?_, this.2⟩
          show 1 ≤ y.1 + last ∧ y.1 + last ≤ 1000
          omega
    have lo2 : (more.map fun e : Ent => ((e.1 + last, e.2) : Ent)).length ≤ 20 := by rw [List.length_map]; omega
    generalize (more.map fun e : Ent => ((e.1 + last, e.2) : Ent)) = other at ho2 lo2 ⊢
    have lo1 : one.length ≤ 20 := by omega
    have eb : one.map entD ++ other.map entD = (one ++ other).map entD := by rw [List.map_append]
    simp [b1006_5, wpSs, wpS, wpE, wpT, wpEs, wpEo, wpTo, wpIt, wpFs, wpHs, madeR, fmtD, setAll, seqD, bindP, bindPs, wipeE, startE, -Bool.exists_bool, -Bool.forall_bool]
    refine ⟨by omega, ?_⟩
    rw [eb]
    obtain ⟨both, hboth⟩ : ∃ x, x = one ++ other := ⟨_, rfl⟩
    have lb : both.length ≤ 40 := by rw [hboth, List.length_append]; omega
    rw [← hboth] at ho2 ⊢
    simp [b1006_6, wpSs, wpS, wpE, wpT, wpEs, wpEo, wpTo, wpIt, wpFs, wpHs, madeR, fmtD, setAll, seqD, bindP, bindPs, wipeE, startE, -Bool.exists_bool, -Bool.forall_bool]
    refine sp_at (k := lev - 2) hdr h.f2016 (n := 1000) (by omega) ho2 fun x => ?_
    simp [b1006_7, wpSs, wpS, wpE, wpT, wpEs, wpEo, wpTo, wpIt, wpFs, wpHs, madeR, fmtD, setAll, seqD, bindP, bindPs, wipeE, startE, -Bool.exists_bool, -Bool.forall_bool]
    refine lrows (k := lev - 3) h.f2017 h.f2014 h.f2009 (by omega) fun rows hr => ?_
    simp [b1006_8, wpSs, wpS, wpE, wpT, wpEs, wpEo, wpTo, wpIt, wpFs, wpHs, madeR, fmtD, setAll, seqD, bindP, bindPs, wipeE, startE, -Bool.exists_bool, -Bool.forall_bool]
    refine sp_rows (k := lev - 6) hpr (by omega) (.inl rfl) fun rows2 b hr2 hb => ?_
    have e2 := hr2.uniq hr
    subst e2
    have mb := mup_at (fun _ => none : Mu) b (some (.lst (rows2.map rwD)))
    simp [b1006_9, b1006a, wpSs, wpS, wpE, wpT, wpEs, wpEo, wpTo, wpIt, wpFs, wpHs, madeR, fmtD, setAll, seqD, bindP, bindPs, wipeE, startE, -Bool.exists_bool, -Bool.forall_bool]
    refine sp_same_rl (k := lev - 3) (n := 1) h.f1005 mb (pl_rows _) ?_
    simp
    have rest2 : ∀ (w : Int) (m : Mu) (x9 x10 : D), wpSs (run T gv lev) gv true b1006_17 [.scr ns, .st a, .lst (one.map entD), .int last, .lst (more.map entD), .lst (other.map entD), .lst (both.map entD), atD x, .lst (rows2.map rwD), x9, x10, .int w, .un, .un, .un, .un] m ⟨fun _ _ => False, fun r _ => r = .bl true, fun x _ m => NoX x m⟩ := by
      intro w m x9 x10
      simp [b1006_17, b1006i, wpSs, wpS, wpE, wpT, wpEs, wpEo, wpTo, wpIt, wpFs, wpHs, madeR, fmtD, setAll, seqD, bindP, bindPs, wipeE, startE, -Bool.exists_bool, -Bool.forall_bool]
      refine ⟨by omega, ?_⟩
      have ew : both.map entD ++ [D.tup [.int w, D.tup [.str [115, 116, 114, 101, 116, 99, 104], .str [97], .non]]] = (both ++ [(w, Op.stretch [97] none)]).map entD := by rw [List.map_append]; rfl
      rw [ew]
      refine sp_rows (k := lev - 6) (a := none) hpr (by rw [List.length_append, List.length_singleton]; omega) (.inl rfl) fun r5 c5 h5 hc5 => ?_
      have e5 : r5 = [] := by
        cases r5 with
        | nil => rfl
        | cons y l =>
          exfalso
          have hm := (h5.mem y.1 y.2).mp List.mem_cons_self
          have hk := pv_put hm
          obtain ⟨e, he, ek⟩ := List.mem_map.mp hk
          obtain ⟨he1, he2⟩ := List.mem_filter.mp he
          have hkey : isKey y.1 := by
            rcases List.mem_append.mp he1 with z | z
            · rw [← ek]
              exact key_good (ho2.2 e z).2
            · rw [List.mem_singleton.mp z] at he2
              cases he2
          rw [pv_two] at hm
          have ht : touB (Op.stretch [97] none) y.1 = true := by
            show (!sltB y.1 [97] && true) = true
            rw [Bool.and_true, Bool.not_eq_true']
            obtain ⟨k1, _, k3⟩ := hkey
            cases q : y.1 with
            | nil => rw [q] at k1; cases k1
            | cons c r =>
              have := (k3 c (by rw [q]; exact List.mem_cons_self)).1
              show (decide (c < 97) || (decide (c = 97) && sltB r [])) = false
              rw [decide_eq_false (by omega)]
              cases r <;> simp [sltB]
          have hl5 : lastOn y.1 none [(w, Op.stretch [97] none)] none = some (w, Op.stretch [97] none) := by
            show (if (seenB none w && touB (Op.stretch [97] none) y.1) = true then _ else _) = _
            rw [ht]
            rfl
          rw [hl5] at hm
          cases hm
      subst e5
      refine sp_same_rl (k := lev - 3) (n := 1) (ds := []) h.f1005 (mup_at _ c5 _) rfl ?_
      refine ⟨_, rfl, rfl, ?_⟩
      generalize mup _ c5 _ = m6
      simp [b1006_18, wpSs, wpS, wpE, wpT, wpEs, wpEo, wpTo, wpIt, wpFs, wpHs, madeR, fmtD, setAll, seqD, bindP, bindPs, wipeE, startE, -Bool.exists_bool, -Bool.forall_bool]
      refine sp_rows (k := lev - 6) (a := none) hpr (by omega) (.inr rfl) fun r6 c6 h6 hc6 => ?_
      refine lrows (a := none) (k := lev - 3) h.f2017 h.f2014 h.f2009 (by omega) fun r7 h7 => ?_
      have e6 := h6.uniq h7
      subst e6
      refine sp_same_rl (k := lev - 3) (n := 1) h.f1005 (mup_at _ c6 _) (pl_rows _) ?_
      refine ⟨_, rfl, (if_pos rfl).mpr ?_⟩
      refine sp_rows (hs := []) (k := lev - 6) (a := none) hpr (by simp) (.inl rfl) fun r8 c8 h8 hc8 => ?_
      have e8 : r8 = [] := List.length_eq_zero_iff.mp (Nat.le_zero.mp h8.len)
      subst e8
      exact sp_same_rl (k := lev - 3) (n := 1) (ds := []) h.f1005 (mup_at _ c8 _) rfl rfl
    simp [b1006_10, b1006c, wpSs, wpS, wpE, wpT, wpEs, wpEo, wpTo, wpIt, wpFs, wpHs, madeR, fmtD, setAll, seqD, bindP, bindPs, wipeE, startE, -Bool.exists_bool, -Bool.forall_bool]
    refine ⟨_, mb, ?_⟩
    refine comp_map rwD (fun _ => .bl true) (gd_one mb) rows2 _ (fun r hrm => ⟨_, rfl, fun R hR => ?_⟩) ?_
    · refine ⟨_, rfl, rfl, _, rfl, rfl, _, rfl, (by cases x <;> rfl), ?_⟩
      refine sp_plain (k := lev - 5) h.f12 h.f13 h.f19 h.f20 h.f21 h.f22 (.inl rfl) ?_
      rw [read_pv, (hr.mem r.1 r.2).mp hrm]
      refine ⟨_, rfl, rfl, ?_⟩
      exact sp_same_refl h.f1005 1 (lev - 2) rfl hR
    refine ⟨_, bl_map _ _, ?_⟩
    simp [-Bool.exists_bool, -Bool.forall_bool]
    simp [b1006_11, wpSs, wpS, wpE, wpT, wpEs, wpEo, wpTo, wpIt, wpFs, wpHs, madeR, fmtD, setAll, seqD, bindP, bindPs, wipeE, startE, -Bool.exists_bool, -Bool.forall_bool, mb]
    refine ⟨by rw [← List.length_map (f := rwD)] ; have := hr.len; simp; omega, ?_⟩
    simp [b1006_12, wpSs, wpS, wpE, wpT, wpEs, wpEo, wpTo, wpIt, wpFs, wpHs, madeR, fmtD, setAll, seqD, bindP, bindPs, wipeE, startE, -Bool.exists_bool, -Bool.forall_bool, mup_at, mup_mup]
    simp [b1006_13, b1006e, wpSs, wpS, wpE, wpT, wpEs, wpEo, wpTo, wpIt, wpFs, wpHs, madeR, fmtD, setAll, seqD, bindP, bindPs, wipeE, startE, -Bool.exists_bool, -Bool.forall_bool]
    refine sp_rows (k := lev - 6) hpr (by omega) (.inl rfl) fun rows3 b3 hr3 hb3 => ?_
    have e3 := hr3.uniq hr
    subst e3
    refine sp_same_rl (k := lev - 3) (n := 1) h.f1005 (mup_at _ b3 _) (pl_rows _) ?_
    try simp [-Bool.exists_bool, -Bool.forall_bool]
    generalize mup _ b3 _ = m3
    simp [b1006_14, wpSs, wpS, wpE, wpT, wpEs, wpEo, wpTo, wpIt, wpFs, wpHs, madeR, fmtD, setAll, seqD, bindP, bindPs, wipeE, startE, -Bool.exists_bool, -Bool.forall_bool]
    refine sp_rows (k := lev - 6) (a := none) hpr (by omega) (.inl rfl) fun r1 c1 h1 hc1 => ?_
    try simp [-Bool.exists_bool, -Bool.forall_bool]
    refine sp_rows (k := lev - 6) (a := none) hpr (by omega) (.inl rfl) fun r2 c2 h2 hc2 => ?_
    have nc : c1 ≠ c2 := fun e => by rw [← e, mup_at] at hc2; cases hc2
    try simp [-Bool.exists_bool, -Bool.forall_bool]
    have l1 := h1.len
    have l2 := h2.len
    refine sp_laid (k := lev - 2) h.f2018 h.f2009 (by rw [mup_ne nc]; exact mup_at ..) (mup_at ..) (by omega) (by omega) (laid_nd h1 h2) fun ys yp yu => ?_
    have yo := laid_ok h1 h2 yp yu
    generalize mup _ c2 _ = m4
    simp [b1006_15, b1006g, wpSs, wpS, wpE, wpT, wpEs, wpEo, wpTo, wpIt, wpFs, wpHs, madeR, fmtD, setAll, seqD, bindP, bindPs, wipeE, startE, -Bool.exists_bool, -Bool.forall_bool]
    refine sp_rows (k := lev - 6) (a := none) hpr (by omega) (.inl rfl) fun r4 c4 h4 hc4 => ?_
    have e4 : ys = r4 := rows_eq yo.1 h4.up fun ⟨kk, v⟩ => (yo.2 kk v).trans (hboth ▸ (h4.mem kk v).symm)
    subst e4
    refine sp_same_lr (k := lev - 3) (n := 1) h.f1005 (mup_at _ c4 _) (pl_rows _) ?_
    try simp [-Bool.exists_bool, -Bool.forall_bool]
    generalize mup _ c4 _ = m5
    simp [b1006_16, wpSs, wpS, wpE, wpT, wpEs, wpEo, wpTo, wpIt, wpFs, wpHs, madeR, fmtD, setAll, seqD, bindP, bindPs, wipeE, startE, -Bool.exists_bool, -Bool.forall_bool]
    split
    · rename_i z
      obtain ⟨e, h1, _, _⟩ := atI_last (s := both) (neB_ne.mp z)
      refine ⟨entD e, by rw [atI_mp, h1]; rfl, ?_⟩
      refine ⟨_, at_0 .., ?_⟩
      exact rest2 (e.1 + 1) m5 _ _
    · exact rest2 1 m5 _ _
  simp [b1006_2, wpSs, wpS, wpE, wpT, wpEs, wpEo, wpTo, wpIt, wpFs, wpHs, madeR, fmtD, setAll, seqD, bindP, bindPs, wipeE, startE, -Bool.exists_bool, -Bool.forall_bool]
  split
  · rename_i z
    obtain ⟨e, h1, he, h3⟩ := atI_last (s := one) (neB_ne.mp z)
    refine ⟨entD e, by rw [atI_mp, h1]; rfl, ?_⟩
    refine ⟨_, at_0 .., ?_⟩
    have hb := (ho.2 e he).1
    refine rest e.1 (by omega) (by omega) fun u hu => ?_
    have es := List.dropLast_concat_getLast (neB_ne.mp z)
    have hp := ho.1
    rw [← es, h3] at hp
    rw [← es, h3] at hu
    rcases List.mem_append.mp hu with y | y
    · have := (List.pairwise_append.mp hp).2.2 u y e (List.mem_singleton.mpr rfl)
      omega
    · rw [List.mem_singleton.mp y]
      exact Int.le_refl _
  · rename_i z
    refine rest 0 (by omega) (by omega) fun u hu => ?_
    exact absurd (neB_ne.mpr fun e => by rw [e] at hu; cases hu) z
end
end Wk05
namespace Wk05
open PySem L2 Pk
def top (i : Nat) : Stmt := PySem.Challenge.pw_pourkeep_k05_whole_plain_rows.main.body.getD i (.Pass ⟨0, 0, 0, 0⟩)
def d12 : Df := ⟨12, "below", top 1, ["bound", "high"], ["bound", "high"], b12, []⟩
def d13 : Df := ⟨13, "within", top 2, ["key", "low", "high"], ["key", "low", "high"], b13, []⟩
def d19 : Df := ⟨19, "touches", top 4, ["op", "key"], ["op", "key"], b19, []⟩
def d20 : Df := ⟨20, "told_by", top 5, ["op"], ["op"], b20, []⟩
def d21 : Df := ⟨21, "last_on", top 6, ["history", "key", "at"], ["history", "key", "at", "found", "stamp", "op"], b21, [.non]⟩
def d22 : Df := ⟨22, "plain", top 7, ["history", "key", "at"], ["history", "key", "at", "found"], b22, [.non]⟩
def d23 : Df := ⟨23, "plain_rows", top 8, ["history", "at"], ["history", "at", "keys", "rows", "key", "value", "stamp", "op"], b23, [.non]⟩
def h1000 : Df := ⟨1000, "_law_start", top 10, ["_law_script"], ["_law_script", "_law_great", "_law_cell"], .nil, []⟩
def h1001 : Df := ⟨1001, "_law_draw", top 11, ["_law_state", "_law_many"], ["_law_state", "_law_many", "_law_told", "_law_size"], .nil, []⟩
def h1002 : Df := ⟨1002, "_law_mix", top 12, ["_law_state"], ["_law_state", "_law_count", "_law_cell", "_law_stirred"], .nil, []⟩
def d1003 : Df := ⟨1003, "_law_key", top 13, ["_law_state"], ["_law_state", "_law_k"], b1003, []⟩
def d2007 : Df := ⟨2007, "_law_value", top 14, ["_law_state"], ["_law_state"], b2007, []⟩
def d2008 : Df := ⟨2008, "_law_op", top 15, ["_law_state"], ["_law_state", "_law_kind", "_law_key_here", "_law_high"], b2008, []⟩
def d2009 : Df := ⟨2009, "_law_touches", top 16, ["_law_op_here", "_law_key_here"], ["_law_op_here", "_law_key_here"], b2009, []⟩
def d2014 : Df := ⟨2014, "_law_read", top 17, ["_law_history_here", "_law_key_here", "_law_at"], ["_law_history_here", "_law_key_here", "_law_at", "_law_found", "_law_stamp", "_law_op_here"], b2014, []⟩
def d2017 : Df := ⟨2017, "_law_rows", top 18, ["_law_history_here", "_law_at"], ["_law_history_here", "_law_at", "_law_keys", "_law_found", "_law_key_here", "_law_row", "_law_stamp", "_law_op_here"], b2017, []⟩
def d1004 : Df := ⟨1004, "_law_whole", top 19, ["_law_thing"], ["_law_thing"], b1004, []⟩
def d1005 : Df := ⟨1005, "_law_same", top 20, ["_law_found", "_law_want"], ["_law_found", "_law_want", "_law_one", "_law_other"], b1005, []⟩
def d2015 : Df := ⟨2015, "_law_history", top 21, ["_law_state", "_law_many"], ["_law_state", "_law_many", "_law_history_here", "_law_stamp", "_law_k"], b2015, []⟩
def d2016 : Df := ⟨2016, "_law_some_at", top 22, ["_law_state", "_law_history_here"], ["_law_state", "_law_history_here", "_law_last", "_law_way"], b2016, []⟩
def d2018 : Df := ⟨2018, "_law_laid_over", top 23, ["_law_first", "_law_second", "_law_history_here"], ["_law_first", "_law_second", "_law_history_here", "_law_rows_here", "_law_key_here", "_law_value_here", "_law_stamp", "_law_op_here"], b2018, []⟩
def d1006 : Df := ⟨1006, "law", top 24, ["_law_script"], ["_law_script", "_law_state", "_law_one", "_law_last", "_law_more", "_law_other", "_law_both", "_law_at", "_law_want", "_law_found", "_law_laid", "_law_end", "_law_stamp", "_law_op_here", "_law_key_here", "_law_value_here"], b1006, []⟩
def cs3 : List (Nat × Str × Gc) := []
def L : Lw := { ds := [d12, d13, d19, d20, d21, d22, d23, d1003, d2007, d2008, d2009, d2014, d2017, d1004, d1005, d2015, d2016, d2018, d1006], sS := h1000, sD := h1001, sM := h1002, gn := [], gf := [], bl := ["sorted", "len", "range", "min", "max", "set", "isinstance", "int", "bool", "str", "tuple", "list", "all", "zip", "any", "ValueError"], cs := [(1001, 9), (1003, 301989915), (2007, 27), (2008, 603979875), (2015, 10133100973522944), (2016, 36), (1006, 20266201947045942)], gx := fun K => cs3.all fun c => cnX c.2.1 c.2.2 K }
theorem hB : AllB L.all := ⟨.inl ⟨rfl, fun _ _ _ _ _ _ us hl => match us, hl with | [_], _ => rfl⟩,
  .inl ⟨rfl, fun _ _ _ _ _ _ us hl => match us, hl with | [_, _], _ => rfl⟩,
  .inl ⟨rfl, fun _ _ _ _ _ _ us hl => match us, hl with | [_], _ => rfl⟩,
  .inl ⟨rfl, fun _ _ _ _ _ _ us hl => match us, hl with | [_, _], _ => rfl⟩,
  .inl ⟨rfl, fun _ _ _ _ _ _ us hl => match us, hl with | [_, _, _], _ => rfl⟩,
  .inl ⟨rfl, fun _ _ _ _ _ _ us hl => match us, hl with | [_, _], _ => rfl⟩,
  .inl ⟨rfl, fun _ _ _ _ _ _ us hl => match us, hl with | [_], _ => rfl⟩,
  .inr ⟨by decide, by decide, fun j hj => match j, hj with | 0, _ => (fun _ _ _ _ _ _ _ us its h1 h2 => match us, its, h1, h2 with | [_, _], [_], _, _ => ⟨_, rfl, rfl⟩) | 1, _ => (fun _ _ _ _ _ _ _ us its h1 h2 => match us, its, h1, h2 with | [_, _, _], [_], _, _ => ⟨_, rfl, rfl⟩)⟩,
  .inr ⟨by decide, by decide, fun j hj => match j, hj with | 0, _ => (fun _ _ _ _ _ _ _ us its h1 h2 => match us, its, h1, h2 with | [_, _], [_], _, _ => ⟨_, rfl, rfl⟩) | 1, _ => (fun _ _ _ _ _ _ _ us its h1 h2 => match us, its, h1, h2 with | [_, _, _], [_], _, _ => ⟨_, rfl, rfl⟩)⟩,
  .inr ⟨by decide, by decide, fun j hj => match j, hj with | 0, _ => (fun _ _ _ _ _ _ _ us its h1 h2 => match us, its, h1, h2 with | [_], [_], _, _ => ⟨_, rfl, rfl⟩) | 1, _ => (fun _ _ _ _ _ _ _ us its h1 h2 => match us, its, h1, h2 with | [_, _], [_], _, _ => ⟨_, rfl, rfl⟩)⟩,
  .inl ⟨rfl, fun _ _ _ _ _ _ us hl => match us, hl with | [_], _ => rfl⟩,
  .inl ⟨rfl, fun _ _ _ _ _ _ us hl => match us, hl with | [_], _ => rfl⟩,
  .inl ⟨rfl, fun _ _ _ _ _ _ us hl => match us, hl with | [_], _ => rfl⟩,
  .inl ⟨rfl, fun _ _ _ _ _ _ us hl => match us, hl with | [_, _], _ => rfl⟩,
  .inl ⟨rfl, fun _ _ _ _ _ _ us hl => match us, hl with | [_, _, _], _ => rfl⟩,
  .inl ⟨rfl, fun _ _ _ _ _ _ us hl => match us, hl with | [_, _], _ => rfl⟩,
  .inl ⟨rfl, fun _ _ _ _ _ _ us hl => match us, hl with | [_], _ => rfl⟩,
  .inl ⟨rfl, fun _ _ _ _ _ _ us hl => match us, hl with | [_, _], _ => rfl⟩,
  .inl ⟨rfl, fun _ _ _ _ _ _ us hl => match us, hl with | [_, _], _ => rfl⟩,
  .inl ⟨rfl, fun _ _ _ _ _ _ us hl => match us, hl with | [_, _], _ => rfl⟩,
  .inl ⟨rfl, fun _ _ _ _ _ _ us hl => match us, hl with | [_, _, _], _ => rfl⟩,
  .inl ⟨rfl, fun _ _ _ _ _ _ us hl => match us, hl with | [_], _ => rfl⟩, trivial⟩
theorem hBM : AllBM L.mt := trivial
theorem hBK : AllBK L.ki := trivial
theorem hO : ownB L = true := by decide +kernel
theorem has : Has L.T := ⟨rfl, rfl, rfl, rfl, rfl, rfl, rfl, rfl, rfl, rfl, rfl, rfl, rfl, rfl, rfl, rfl, rfl, rfl, rfl, rfl, rfl⟩
theorem hg (K : PySem.W.Frag) (h : Heap) (mg : Str → Option Value) (KX : K.In h) (Gm : h.Ns mainGlobals mg) (c : L.Says K) : ∀ g nm, L.gn.lookup g = some nm → ∃ (u : Value) (v : V), mg nm = some u ∧ RelV v u ∧ ∀ W, Rep (L.G K) W v (gv g) := hg_of cs3 rfl rfl (by decide +kernel) (fun _ h => h) K h mg KX Gm c
theorem hI : AllI L.ms := trivial
theorem hM : mB L = true := by decide +kernel
theorem hH : hdB L = true := by decide +kernel
theorem hD : L.ds.all (dfB L) = true := by decide +kernel
def loose : List Str := (["below", "within", "touches", "told_by", "last_on", "plain", "plain_rows", "_law_start", "_law_draw", "_law_mix", "_law_key", "_law_value", "_law_op", "_law_touches", "_law_read", "_law_rows"] : List Str) ++ (["_law_whole", "_law_same", "_law_history", "_law_some_at", "_law_laid_over"] : List Str)
abbrev R : PySem.W.OpenRow := PySem.W.OpenLaw.row PySem.Challenge.rw_pourkeep_k05_whole_plain_rows
abbrev hk : PySem.W.Hook := hookP 4 L
def ob (s : PySem.W.SharedT) : He.AlD × Bool := obsP 4 L (HandSHeadRun.getT s)
theorem ob_eq (s : PySem.W.SharedT) : ob s = hk.obs s.abs := obsP_eq (HandSHeadRun.getT_eq s)
theorem run_eq (w : World) : HandSHeadRun.RunEq R (PySem.W.view R.prog [24]) hk ob 3500 loose w := by
  intro os
  kernel_rfl
end Wk05
open PySem PySem.W PySem.Calls PyProof.Rows
theorem PySem.Challenge.cw_pourkeep_k05_whole_plain_rows_holds : PySem.Challenge.rw_pourkeep_k05_whole_plain_rows.Holds := by
  w_on; o_law
  refine HandSHeadRun.head_any (r := OpenLaw.row PySem.Challenge.rw_pourkeep_k05_whole_plain_rows) (q := view (OpenLaw.row PySem.Challenge.rw_pourkeep_k05_whole_plain_rows).prog [24]) (H := Wk05.hk) (ob := Wk05.ob) (M := 3500) (loose := Wk05.loose) (d := HandSHeadRun.topDef (OpenLaw.row PySem.Challenge.rw_pourkeep_k05_whole_plain_rows).prog 24) (kwd := []) Wk05.ob_eq
    (by kernel_rfl) (fun s => by kernel_rfl) Wk05.run_eq (by kernel_rfl) (by kernel_rfl) (by kernel_rfl) (by rfl) (by first | assumption | decide +kernel) (by decide +kernel) ⟨rfl, rfl, rfl, rfl, rfl, by decide +kernel⟩ ?hw ?hc
  case hw => w_witness2
  case hc =>
    refine Pk.walk_pk (l := PySem.Challenge.rw_pourkeep_k05_whole_plain_rows) (k := Wk05.lev + 1) (L := Wk05.L) (x := "_law_script") rfl (by kernel_rfl) ⟨rfl, by decide, by decide⟩ (fun w h y => y) Wk05.hB Wk05.hBM Wk05.hBK Wk05.hO Wk05.hI Wk05.hM Wk05.hH Wk05.hD Wk05.gv Wk05.hg Wk05.d1006 (by simp [Wk05.L]) rfl rfl rfl rfl (by decide +kernel) rfl (by kernel_rfl) (fun ns hl hb => Wk05.plain Wk05.has ns hl hb)
