import PyProof.Rows.All
import Wide.All
import OpenK.AllK
import Wide.FinOn
import HandS.Codes
import HandS.Conv
import HandS.Deep
import HandS.Flow
import HandS.ForMost
import HandS.Head0
import HandS.Head1
import HandS.Head2
import HandS.HeadEnd
import HandS.HeadHook1
import HandS.HeadHook2
import HandS.HeadHook3
import HandS.HeadHook4
import HandS.HeadWalk
import HandS.IsInst
import HandS.SortInts
import HandS.SortRule
import HandS.Star
import HandS.Style
import HandS.TupAny
import HandS.TupMul
import HandS.Wide
import HandS.WideMore
import HandS.Zip
import PySem.Challenge.RW_cellcurves_k26_levels_below_levels
set_option Elab.async false
set_option linter.all false
set_option maxRecDepth 100000
section
/-! CcI: values, the small language and its evaluator. -/
noncomputable section
namespace CC
open PySem

abbrev Ky := Sum Int Str

/-- values -/
inductive D where
  | non | bl (b : Bool) | int (i : Int) | str (s : Str)
  | tup (xs : List D) | lst (xs : List D)
  | dK (kvs : List (Ky × D)) | dT (kvs : List (List Ky × D))
  | obj (c : Nat) (fs : List D)
  | cel (k : Nat)
  | fn (k : Nat) (cl : List D)
  | scr (ns : List Int)
instance : Inhabited D := ⟨.non⟩

/-- the state: what the cells hold -/
abbrev Sto := List D
/-- how a value stands: shared, new and nobody's, a name's own -/
inductive Tg where
  | sh | ow | pk
  deriving DecidableEq
abbrev Rr := Tg × D
/-- a name -/
inductive Sl where
  | no | sh (d : D) | ow (d : D)
abbrev Env := List Sl

inductive Res (α : Type) where
  | ok (a : α) (S : Sto)
  | exc (x : D) (S : Sto)
  | bad
namespace Res
def bind {α β : Type} : Res α → (α → Sto → Res β) → Res β
  | .ok a S, f => f a S
  | .exc x S, _ => .exc x S
  | .bad, _ => .bad
@[simp] theorem bind_ok {α β : Type} (a : α) (S : Sto) (f : α → Sto → Res β) : (Res.ok a S).bind f = f a S := rfl
@[simp] theorem bind_exc {α β : Type} (x : D) (S : Sto) (f : α → Sto → Res β) : (Res.exc x S).bind f = .exc x S := rfl
@[simp] theorem bind_bad {α β : Type} (f : α → Sto → Res β) : Res.bind .bad f = .bad := rfl
end Res

/-! ### operations on values -/
def szLine : Nat := 16777216
def Small (i : Int) : Prop := -18446744073709551616 < i ∧ i < 18446744073709551616
theorem Small.of {i : Int} (h : Small i) : -(2 ^ 64) < i ∧ i < 2 ^ 64 := by unfold Small at h; omega
noncomputable instance (i : Int) : Decidable (Small i) := Classical.propDecidable _
def Rng62 (i : Int) : Prop := -4611686018427387904 ≤ i ∧ i < 4611686018427387904
theorem Rng62.of {i : Int} (h : Rng62 i) : -(2 ^ 62) ≤ i ∧ i < 2 ^ 62 := by unfold Rng62 at h; omega
noncomputable instance (i : Int) : Decidable (Rng62 i) := Classical.propDecidable _
/-- a divisor that is carried -/
def DivOk (j : Int) : Prop := 0 < j ∧ j.natAbs.log2 < 9000
noncomputable instance (j : Int) : Decidable (DivOk j) := Classical.propDecidable _
/-- a power that is carried -/
def PowOk (i j : Int) : Prop := 0 ≤ j ∧ j ≤ 1000 ∧ Small i
noncomputable instance (i j : Int) : Decidable (PowOk i j) := Classical.propDecidable _
/-- a tuple said over that is carried -/
def RepOk (n : Nat) (k : Int) : Prop := 2 ≤ k ∧ k ≤ 1000 ∧ n ≠ 0 ∧ n ≤ 1000
noncomputable instance (n : Nat) (k : Int) : Decidable (RepOk n k) := Classical.propDecidable _

mutual
def plain : D → Bool
  | .non => true | .bl _ => true | .int _ => true
  | .str x => x.cps.all (· < 0x110000)
  | .tup xs => plains xs | .lst xs => plains xs
  | _ => false
def plains : List D → Bool
  | [] => true
  | x :: xs => plain x && plains xs
end
mutual
def dep : D → Nat
  | .tup xs => deps xs + 1 | .lst xs => deps xs + 1
  | _ => 0
def deps : List D → Nat
  | [] => 0
  | x :: xs => max (dep x) (deps xs)
end
mutual
/-- == of plain data -/
def eqv : D → D → Bool
  | .non, .non => true
  | .bl a, .bl b => a == b
  | .bl a, .int j => (if a then 1 else 0) == j
  | .int i, .bl b => i == (if b then 1 else 0)
  | .int i, .int j => i == j
  | .str x, .str y => x == y
  | .lst xs, .lst ys => eqvs xs ys
  | .tup xs, .tup ys => eqvs xs ys
  | _, _ => false
def eqvs : List D → List D → Bool
  | [], [] => true
  | x :: xs, y :: ys => eqv x y && eqvs xs ys
  | _, _ => false
end
def flat : D → Bool
  | .non => true | .bl _ => true | .int _ => true | .str _ => true
  | _ => false
/-- data that can be compared by == -/
def good (d : D) : Bool := plain d && decide (dep d ≤ 60)

/-- the order of data of one make -/
inductive Ordr where
  | lt | eq | gt | no
mutual
def cmpv : D → D → Ordr
  | .int i, .int j => if i < j then .lt else if i = j then .eq else .gt
  | .tup xs, .tup ys => cmpvs xs ys
  | _, _ => .no
def cmpvs : List D → List D → Ordr
  | [], [] => .eq
  | [], _ :: _ => .lt
  | _ :: _, [] => .gt
  | x :: xs, y :: ys => match cmpv x y with
    | .eq => cmpvs xs ys
    | o => o
end

def keyOf : D → Option Ky
  | .int i => some (.inl i)
  | .str x => some (.inr x)
  | _ => none
def keysOf : List D → Option (List Ky)
  | [] => some []
  | d :: ds => match keyOf d, keysOf ds with
    | some k, some ks => some (k :: ks)
    | _, _ => none
def ofKey : Ky → D
  | .inl i => .int i
  | .inr x => .str x
section
variable {κ : Type} [DecidableEq κ]
def dGet (kvs : List (κ × D)) (k : κ) : Option D := (kvs.find? fun kv => decide (kv.1 = k)).map (·.2)
def dPut (kvs : List (κ × D)) (k : κ) (v : D) : List (κ × D) :=
  if (kvs.any fun kv => decide (kv.1 = k)) = true then kvs.map (fun kv => if kv.1 = k then (kv.1, v) else kv) else kvs ++ [(k, v)]
def dDrop (kvs : List (κ × D)) (k : κ) : List (κ × D) := kvs.filter fun kv => decide (kv.1 ≠ k)
end

/-- the place of an index of any sign -/
def ixN (n : Nat) (i : Int) : Option Nat := if 0 ≤ i then (if i < n then some i.toNat else none) else if -(n : Int) ≤ i then some (i + n).toNat else none
def sIx (n d : Nat) : Option Int → Nat
  | none => d
  | some v => if v < 0 then (v + (n : Int)).toNat else min v.toNat n
def cut {α : Type} (xs : List α) (lo hi : Option Int) : List α := (xs.drop (sIx xs.length 0 lo)).take (sIx xs.length xs.length hi - sIx xs.length 0 lo)

def intsOf : List D → Option (List Int)
  | [] => some []
  | .int i :: ds => (intsOf ds).map (i :: ·)
  | _ :: _ => none
def blsOf : List D → Option (List Bool)
  | [] => some []
  | .bl i :: ds => (blsOf ds).map (i :: ·)
  | _ :: _ => none

def lexLt : List Int → List Int → Bool
  | [], [] => false
  | [], _ :: _ => true
  | _ :: _, [] => false
  | x :: xs, y :: ys => if x = y then lexLt xs ys else decide (x < y)

/-! ### the words of the small language -/
inductive Op where
  | add | sub | mul | fdiv | mod | pow
  deriving DecidableEq
inductive Cp where
  | eq | ne | lt | le | gt | ge | is_ | isnot | in_ | notin
  deriving DecidableEq
inductive Ty where
  | int | bool | list | tuple | str
  deriving DecidableEq

def place (x : Nat) : List Nat → Option Nat
  | [] => none
  | y :: r => if x = y then some 0 else (place x r).map (· + 1)

def shd {d : D} (S : Sto) : Res Rr := .ok (.sh, d) S
def okS (d : D) (S : Sto) : Res Rr := .ok (.sh, d) S
def okO (d : D) (S : Sto) : Res Rr := .ok (.ow, d) S
def ckO (d : D) (n : Nat) (S : Sto) : Res Rr := if n ≤ szLine then .ok (.ow, d) S else .bad

def addR (a b : D) (S : Sto) : Res Rr :=
  match a, b with
  | .int i, .int j => okS (.int (i + j)) S
  | .lst xs, .lst ys => if xs.length + ys.length ≤ szLine then okO (.lst (xs ++ ys)) S else .bad
  | .tup xs, .tup ys => if xs.length + ys.length ≤ szLine then okS (.tup (xs ++ ys)) S else .bad
  | .str xs, .str ys => if xs.length + ys.length ≤ szLine then okS (.str (xs ++ ys)) S else .bad
  | _, _ => .bad
def subR (a b : D) (S : Sto) : Res Rr :=
  match a, b with
  | .int i, .int j => okS (.int (i - j)) S
  | _, _ => .bad
def mulR (a b : D) (S : Sto) : Res Rr :=
  match a, b with
  | .int i, .int j => if Small i ∨ Small j then okS (.int (i * j)) S else .bad
  | .lst xs, .int k => if Rng62 k ∧ xs.length * k.toNat ≤ szLine then okO (.lst (List.replicate k.toNat xs).flatten) S else .bad
  | .tup xs, .int k => if RepOk xs.length k then okS (.tup (List.replicate k.toNat xs).flatten) S else .bad
  | _, _ => .bad
def fdivR (a b : D) (S : Sto) : Res Rr :=
  match a, b with
  | .int i, .int j => if DivOk j then okS (.int (i / j)) S else .bad
  | _, _ => .bad
def modR (a b : D) (S : Sto) : Res Rr :=
  match a, b with
  | .int i, .int j => if 0 < j then okS (.int (i % j)) S else .bad
  | _, _ => .bad
def powR (a b : D) (S : Sto) : Res Rr :=
  match a, b with
  | .int i, .int j => if PowOk i j then okS (.int (i ^ j.toNat)) S else .bad
  | _, _ => .bad
def binR : Op → D → D → Sto → Res Rr
  | .add => addR
  | .sub => subR
  | .mul => mulR
  | .fdiv => fdivR
  | .mod => modR
  | .pow => powR

def eqR (neg : Bool) (a b : D) (S : Sto) : Res D :=
  match a, b with
  | .scr ns, .lst [] => .ok (.bl (neg != ns.isEmpty)) S
  | a, b => if (good a && good b) = true then .ok (.bl (neg != eqv a b)) S else .bad
def ltR (sw : Bool) (a b : D) (S : Sto) : Res D :=
  match a, b with
  | .int i, .int j => .ok (.bl (decide (i < j))) S
  | .tup xs, .tup ys => if sw = true then .bad else match intsOf xs, intsOf ys with
    | some ns, some ms => .ok (.bl (lexLt ns ms)) S
    | _, _ => .bad
  | _, _ => .bad

def leR (a b : D) (S : Sto) : Res D :=
  match a, b with
  | .int i, .int j => .ok (.bl (decide (i ≤ j))) S
  | _, _ => .bad
def isNon : D → Bool
  | .non => true
  | _ => false
def isR (neg : Bool) (a b : D) (S : Sto) : Res D :=
  match b with
  | .non => .ok (.bl (neg != isNon a)) S
  | _ => .bad
def inR (neg : Bool) (a b : D) (S : Sto) : Res D :=
  match b with
  | .lst xs => if (good a && good (.lst xs)) = true then .ok (.bl (neg != xs.any fun y => eqv y a)) S else .bad
  | .tup xs => if (flat a && xs.all flat) = true then .ok (.bl (neg != xs.any fun y => eqv y a)) S else .bad
  | _ => .bad
/-- a comparison of anything but instances -/
def cmpR : Cp → D → D → Sto → Res D
  | .eq => eqR false
  | .ne => eqR true
  | .lt => ltR false
  | .gt => fun a b => ltR true b a
  | .le => leR
  | .ge => fun a b => leR b a
  | .is_ => isR false
  | .isnot => isR true
  | .in_ => inR false
  | .notin => inR true

def ixR (a b : D) (S : Sto) : Res Rr :=
  match a, b with
  | .lst xs, .int i | .tup xs, .int i => match (ixN xs.length i).bind fun j => xs[j]? with
    | some d => okS d S
    | none => .bad
  | .str x, .int i => match (ixN x.cps.toList.length i).bind fun j => x.cps.toList[j]? with
    | some c => if x.length ≤ szLine then okS (.str ⟨#[c]⟩) S else .bad
    | none => .bad
  | .scr ns, .int i => match (ixN ns.length i).bind fun j => ns[j]? with
    | some n => okS (.int n) S
    | none => .bad
  | .cel k, .int i => match S[k]? with
    | some (.lst xs) => match (ixN xs.length i).bind fun j => xs[j]? with
      | some d => okS d S
      | none => .bad
    | _ => .bad
  | _, _ => .bad

def slR (a : D) (lo hi : Option Int) (S : Sto) : Res Rr :=
  match a with
  | .lst xs => okO (.lst (cut xs lo hi)) S
  | .tup xs => okS (.tup (cut xs lo hi)) S
  | _ => .bad
def revR (a : D) (S : Sto) : Res Rr :=
  match a with
  | .lst xs => okO (.lst xs.reverse) S
  | _ => .bad

def insB {α : Type} (le : α → α → Bool) (x : α) : List α → List α
  | [] => [x]
  | y :: r => if le x y = true then x :: y :: r else y :: insB le x r
def isort {α : Type} (le : α → α → Bool) : List α → List α
  | [] => []
  | x :: r => insB le x (isort le r)
def leI (x y : Int) : Bool := decide (x ≤ y)
def leP (x y : Int × Int) : Bool := decide (x.1 < y.1) || (decide (x.1 = y.1) && decide (x.2 ≤ y.2))
def prsOf : List D → Option (List (Int × Int))
  | [] => some []
  | .tup [.int i, .int j] :: ds => (prsOf ds).map ((i, j) :: ·)
  | _ :: _ => none
def ofPr (p : Int × Int) : D := .tup [.int p.1, .int p.2]
def bestI (f : Int → Int → Bool) : Int → List Int → Int
  | m, [] => m
  | m, x :: r => bestI f (if f x m then x else m) r
def lenR (as : List D) (S : Sto) : Res Rr :=
  match as with
  | [.lst xs] => okS (.int xs.length) S
  | [.tup xs] => okS (.int xs.length) S
  | [.scr xs] => okS (.int xs.length) S
  | [.str x] => if x.length ≤ szLine then okS (.int x.length) S else .bad
  | _ => .bad
def absR (as : List D) (S : Sto) : Res Rr :=
  match as with
  | [.int i] => okS (.int (if i < 0 then -i else i)) S
  | _ => .bad
def minR (as : List D) (S : Sto) : Res Rr :=
  match as with
  | [.int i, .int j] => okS (.int (if j < i then j else i)) S
  | [.lst xs] => match intsOf xs with
    | some (n :: ns) => okS (.int (bestI (fun x m => decide (x < m)) n ns)) S
    | _ => .bad
  | _ => .bad
def maxR (as : List D) (S : Sto) : Res Rr :=
  match as with
  | [.int i, .int j] => okS (.int (if j > i then j else i)) S
  | [.lst xs] => match intsOf xs with
    | some (n :: ns) => okS (.int (bestI (fun x m => decide (m < x)) n ns)) S
    | _ => .bad
  | _ => .bad
def sumR (as : List D) (S : Sto) : Res Rr :=
  match as with
  | [.lst xs] => match intsOf xs with
    | some ns => okS (.int ns.sum) S
    | _ => .bad
  | _ => .bad
def allR (as : List D) (S : Sto) : Res Rr :=
  match as with
  | [.lst xs] => match blsOf xs with
    | some bs => okS (.bl (bs.all id)) S
    | _ => .bad
  | _ => .bad
def anyR (as : List D) (S : Sto) : Res Rr :=
  match as with
  | [.lst xs] => match blsOf xs with
    | some bs => okS (.bl (bs.any id)) S
    | _ => .bad
  | _ => .bad
def intR (as : List D) (S : Sto) : Res Rr :=
  match as with
  | [.int i] => okS (.int i) S
  | [.bl k] => okS (.int (if k then 1 else 0)) S
  | _ => .bad
def boolR (as : List D) (S : Sto) : Res Rr :=
  match as with
  | [.int i] => okS (.bl (i != 0)) S
  | [.bl k] => okS (.bl k) S
  | _ => .bad
def listR (as : List D) (S : Sto) : Res Rr :=
  match as with
  | [.lst xs] => okO (.lst xs) S
  | [.tup xs] => okO (.lst xs) S
  | _ => .bad
def tupleR (as : List D) (S : Sto) : Res Rr :=
  match as with
  | [.lst xs] => okS (.tup xs) S
  | [.tup xs] => okS (.tup xs) S
  | _ => .bad
/-- len(set(x)) where nothing comes twice -/
def lensetR (as : List D) (S : Sto) : Res Rr :=
  match as with
  | [.lst xs] => match intsOf xs with
    | some ns => if ns.Nodup ∧ ns.length ≤ 4000 then okS (.int ns.length) S else .bad
    | _ => .bad
  | _ => .bad
def sortedR (as : List D) (S : Sto) : Res Rr :=
  match as with
  | [.lst xs] => match intsOf xs with
    | some ns => okO (.lst ((isort leI ns).map D.int)) S
    | none => match prsOf xs with
      | some ps => okO (.lst ((isort leP ps).map ofPr)) S
      | none => .bad
  | _ => .bad
/-- the first place of what is equal -/
def idxD (ds : List D) (x : D) : Option Nat := ds.findIdx? fun y => eqv y x
def indexR (a b : D) (S : Sto) : Res Rr :=
  match a with
  | .lst ds => if (good b && good (.lst ds)) = true then match idxD ds b with
      | some j => okS (.int (j : Nat)) S
      | none => .bad
    else .bad
  | _ => .bad
def tyIs (t : Ty) : D → Bool
  | .int _ => t == .int
  | .bl _ => t == .int || t == .bool
  | .lst _ => t == .list
  | .tup _ => t == .tuple
  | .str _ => t == .str
  | _ => false
def isTyp : D → Bool
  | .int _ => true | .bl _ => true | .lst _ => true | .tup _ => true | .str _ => true | .non => true
  | _ => false
def isiR (ts : List Ty) (d : D) (S : Sto) : Res Rr := if isTyp d = true then okS (.bl (ts.any fun t => tyIs t d)) S else .bad
def iscR (c : Nat) (d : D) (S : Sto) : Res Rr :=
  match d with
  | .obj c' _ => if c' = c then okS (.bl true) S else .bad
  | _ => .bad

def truthR (d : D) (S : Sto) : Res Bool :=
  match d with
  | .non => .ok false S
  | .bl k => .ok k S
  | .int i => .ok (i != 0) S
  | .str x => if x.length ≤ szLine then .ok (x.length != 0) S else .bad
  | .lst xs => .ok (!xs.isEmpty) S
  | .tup xs => .ok (!xs.isEmpty) S
  | _ => .bad
def compL (f : D → Sto → Res (Option D)) : List D → Sto → Res (List D)
  | [], S => .ok [] S
  | x :: xs, S => (f x S).bind fun o S => (compL f xs S).bind fun ys S => .ok (match o with | some y => y :: ys | none => ys) S
def itemsR (d : D) (S : Sto) : Res (List D) :=
  match d with
  | .lst xs => .ok xs S
  | .tup xs => .ok xs S
  | .str x => .ok (x.cps.toList.map fun c => .str ⟨#[c]⟩) S
  | _ => .bad
def rangeD (lo : Int) (n : Nat) : List D := (List.range n).map fun (k : Nat) => D.int (lo + (k : Int))
def rangeDn (hi : Int) (n : Nat) : List D := (List.range n).map fun (k : Nat) => D.int (hi + (k : Int) * (-1))
def enumD (xs : List D) : List D := xs.zipIdx.map fun p => D.tup [.int (p.2 : Nat), p.1]
def zipD (xs ys : List D) : List D := (xs.zip ys).map fun p => D.tup [p.1, p.2]
def lookR (m : Bool) (i : Nat) (ρ : Env) (S : Sto) : Res Rr :=
  match ρ[i]? with
  | some (.sh d) => .ok (.sh, d) S
  | some (.ow d) => if m = true then .ok (.pk, d) S else .bad
  | _ => .bad
def attR (fs : Nat → List Nat) (f : Nat) (d : D) (S : Sto) : Res Rr :=
  match d with
  | .obj c vs => match place f (fs c) with
    | some j => match vs[j]? with
      | some v => okS v S
      | none => .bad
    | none => .bad
  | _ => .bad
def negR (d : D) (S : Sto) : Res Rr := match d with
  | .int i => okS (.int (-i)) S
  | _ => .bad

/-! ### the combinators -/
abbrev EF := Env → Sto → Res Rr
abbrev BF := Env → Sto → Res Bool
abbrev AF := Env → Sto → Res (List D)
abbrev IF := Env → Sto → Res (List D)
abbrev RF := Env → Sto → Res (List Rr)
abbrev OF := Env → Sto → Res (Option Int)
abbrev GF := D → Env → Option Env
abbrev GS := List D → Env → Option Env
abbrev FF := List D → Sto → Res Rr
abbrev FI := D → List D → Sto → Res (D × D)
inductive Out where
  | nx (ρ : Env) | brk (ρ : Env) | cont (ρ : Env) | ret (r : Rr) (ρ : Env)
abbrev SF := Env → Sto → Res Out
/-- a value that is kept -/
def kp (r : Rr) (S : Sto) : Res D := match r.1 with
  | .pk => .bad
  | _ => .ok r.2 S
@[simp] theorem kp_sh (d : D) (S : Sto) : kp (.sh, d) S = .ok d S := rfl
@[simp] theorem kp_ow (d : D) (S : Sto) : kp (.ow, d) S = .ok d S := rfl
@[simp] theorem kp_pk (d : D) (S : Sto) : kp (.pk, d) S = .bad := rfl
/-! expressions -/
def eC (d : D) : EF := fun _ S => okS d S
def eV (m : Bool) (i : Nat) : EF := fun ρ S => lookR m i ρ S
def e1 (g : D → Sto → Res Rr) (a : EF) : EF := fun ρ S => (a ρ S).bind fun x S => g x.2 S
def e2 (g : D → D → Sto → Res Rr) (a b : EF) : EF := fun ρ S => (a ρ S).bind fun x S => (b ρ S).bind fun y S => g x.2 y.2 S
def eBin (op : Op) (a b : EF) : EF := fun ρ S => (e2 (binR op) a b) ρ S
def eNeg (a : EF) : EF := fun ρ S => (e1 negR a) ρ S
def eNot (a : EF) : EF := fun ρ S => (e1 (fun d S => (truthR d S).bind fun k S => okS (.bl !k) S) a) ρ S
def eCmp (op : Cp) (a b : EF) : EF := fun ρ S => (a ρ S).bind fun x S => (b ρ S).bind fun y S => (cmpR op x.2 y.2 S).bind fun d S => okS d S
def eChn (op op' : Cp) (a b c : EF) : EF := fun ρ S => (a ρ S).bind fun x S => (b ρ S).bind fun y S => (cmpR op x.2 y.2 S).bind fun d S => match d with
  | .bl true => (c ρ S).bind fun z S => (cmpR op' y.2 z.2 S).bind fun d S => okS d S
  | .bl false => okS (.bl false) S
  | _ => .bad
def eAnd (a b : EF) : EF := fun ρ S => (a ρ S).bind fun x S => (kp x S).bind fun d S => (truthR d S).bind fun k S => if k = true then b ρ S else okS d S
def eOr (a b : EF) : EF := fun ρ S => (a ρ S).bind fun x S => (kp x S).bind fun d S => (truthR d S).bind fun k S => if k = true then okS d S else b ρ S
def eIf (c : BF) (a b : EF) : EF := fun ρ S => (c ρ S).bind fun k S => if k = true then a ρ S else b ρ S
def aNil : AF := fun _ S => .ok [] S
def aCons (e : EF) (r : AF) : AF := fun ρ S => (e ρ S).bind fun x S => (kp x S).bind fun d S => (r ρ S).bind fun xs S => .ok (d :: xs) S
def aStar (e : EF) (r : AF) : AF := fun ρ S => (e ρ S).bind fun x S => match x.2 with
  | .lst ys => (r ρ S).bind fun xs S => .ok (ys ++ xs) S
  | .tup ys => (r ρ S).bind fun xs S => .ok (ys ++ xs) S
  | _ => .bad
def pCons (e : EF) (r : AF) : AF := fun ρ S => (e ρ S).bind fun x S => (r ρ S).bind fun xs S => .ok (x.2 :: xs) S
def rNil : RF := fun _ S => .ok [] S
def rCons (e : EF) (r : RF) : RF := fun ρ S => (e ρ S).bind fun x S => (r ρ S).bind fun xs S => .ok (x :: xs) S
def eTup (as : AF) : EF := fun ρ S => (as ρ S).bind fun xs S => if xs.length ≤ szLine then okS (.tup xs) S else .bad
def eLst (as : AF) : EF := fun ρ S => (as ρ S).bind fun xs S => if xs.length ≤ szLine then okO (.lst xs) S else .bad
def eCell (as : AF) : EF := fun ρ S => (as ρ S).bind fun xs S => if xs.length ≤ szLine then .ok (.sh, .cel S.length) (S ++ [.lst xs]) else .bad
def eIx (a b : EF) : EF := fun ρ S => (e2 ixR a b) ρ S
def oNo : OF := fun _ S => .ok none S
def oE (e : EF) : OF := fun ρ S => (e ρ S).bind fun x S => match x.2 with
  | .int i => .ok (some i) S
  | _ => .bad
def eSl (a : EF) (lo hi : OF) : EF := fun ρ S => (a ρ S).bind fun x S => (lo ρ S).bind fun l S => (hi ρ S).bind fun h S => slR x.2 l h S
def eRev (a : EF) : EF := fun ρ S => (e1 revR a) ρ S
def eIndex (a b : EF) : EF := fun ρ S => (e2 indexR a b) ρ S
def eAtt (fs : Nat → List Nat) (f : Nat) (a : EF) : EF := fun ρ S => (e1 (attR fs f) a) ρ S
def eCall (F : FF) (as : AF) : EF := fun ρ S => (as ρ S).bind fun xs S => F xs S
def eMeth (c : Nat) (F : FF) (a : EF) (as : AF) : EF := fun ρ S => (a ρ S).bind fun x S => (kp x S).bind fun d S => match d with
  | .obj c' fs => if c' = c then (as ρ S).bind fun xs S => F (.obj c' fs :: xs) S else .bad
  | _ => .bad
def eMk (c : Nat) (F : FI) (as : AF) : EF := fun ρ S => (as ρ S).bind fun xs S => (F (.obj c []) xs S).bind fun r S => match r.1 with
  | .non => okO r.2 S
  | _ => .bad
def eBt (g : List D → Sto → Res Rr) (as : AF) : EF := fun ρ S => (as ρ S).bind fun xs S => g xs S
def eLenset (a : EF) : EF := fun ρ S => (e1 (fun d S => lensetR [d] S) a) ρ S
def eIsi (ts : List Ty) (a : EF) : EF := fun ρ S => (e1 (isiR ts) a) ρ S
def eIsc (c : Nat) (a : EF) : EF := fun ρ S => (e1 (iscR c) a) ρ S
/-! tests -/
def tT (e : EF) : BF := fun ρ S => (e ρ S).bind fun x S => truthR x.2 S
def tNot (t : BF) : BF := fun ρ S => (t ρ S).bind fun k S => .ok (!k) S
def tAnd (a b : BF) : BF := fun ρ S => (a ρ S).bind fun k S => if k = true then b ρ S else .ok false S
def tOr (a b : BF) : BF := fun ρ S => (a ρ S).bind fun k S => if k = true then .ok true S else b ρ S
def tYes : BF := fun _ S => .ok true S
/-! targets -/
def gN (i : Nat) : GF := fun d ρ => some (ρ.set i (.sh d))
def gNil : GS := fun ds ρ => match ds with
  | [] => some ρ
  | _ => none
def gCons (g : GF) (r : GS) : GS := fun ds ρ => match ds with
  | d :: ds => (g d ρ).bind fun ρ => r ds ρ
  | [] => none
def gT (r : GS) : GF := fun d ρ => match d with
  | .tup ds => r ds ρ
  | _ => none
/-! what is gone through -/
def iE (e : EF) : IF := fun ρ S => (e ρ S).bind fun x S => itemsR x.2 S
/-- .. while the names may change -/
def iK (e : EF) : IF := fun ρ S => (e ρ S).bind fun x S => (kp x S).bind fun d S => itemsR d S
def iR1 (a : EF) : IF := fun ρ S => (a ρ S).bind fun x S => match x.2 with
  | .int n => if Rng62 n then .ok (rangeD 0 n.toNat) S else .bad
  | _ => .bad
def iR2 (a b : EF) : IF := fun ρ S => (a ρ S).bind fun x S => (b ρ S).bind fun y S => match x.2, y.2 with
  | .int i, .int j => if Rng62 i ∧ Rng62 j then .ok (rangeD i (j - i).toNat) S else .bad
  | _, _ => .bad
def iR3 (a b c : EF) : IF := fun ρ S => (a ρ S).bind fun x S => (b ρ S).bind fun y S => (c ρ S).bind fun z S => match x.2, y.2, z.2 with
  | .int i, .int j, .int c => if Rng62 i ∧ Rng62 j ∧ c = -1 then .ok (rangeDn i (i - j).toNat) S else .bad
  | _, _, _ => .bad
def iEnum (e : EF) : IF := fun ρ S => (e ρ S).bind fun x S => match x.2 with
  | .lst xs => .ok (enumD xs) S
  | _ => .bad
def iEnumK (e : EF) : IF := fun ρ S => (e ρ S).bind fun x S => (kp x S).bind fun d S => match d with
  | .lst xs => .ok (enumD xs) S
  | _ => .bad
def iZip (a b : EF) : IF := fun ρ S => (a ρ S).bind fun x S => (b ρ S).bind fun y S => match x.2, y.2 with
  | .lst xs, .lst ys => .ok (zipD xs ys) S
  | .tup xs, .tup ys => .ok (zipD xs ys) S
  | _, _ => .bad
def iZipK (a b : EF) : IF := fun ρ S => (a ρ S).bind fun x S => (kp x S).bind fun d S => (b ρ S).bind fun y S => (kp y S).bind fun e S => match d, e with
  | .lst xs, .lst ys => .ok (zipD xs ys) S
  | .tup xs, .tup ys => .ok (zipD xs ys) S
  | _, _ => .bad
/-! comprehensions -/
def cBody (elt : EF) (g : GF) (c : BF) (ρ : Env) (x : D) (S : Sto) : Res (Option D) := match g x ρ with
  | some ρ1 => (c ρ1 S).bind fun k S => if k = true then (elt ρ1 S).bind fun y S => (kp y S).bind fun d S => .ok (some d) S else .ok none S
  | none => .bad
def eComp (elt : EF) (g : GF) (it : IF) (c : BF) : EF := fun ρ S => (it ρ S).bind fun xs S => (compL (cBody elt g c ρ) xs S).bind fun ys S => if xs.length ≤ szLine then okO (.lst ys) S else .bad
/-! statements -/
def sNil : SF := fun ρ S => .ok (.nx ρ) S
def sSeq (a b : SF) : SF := fun ρ S => (a ρ S).bind fun o S => match o with
  | .nx ρ => b ρ S
  | o => .ok o S
def frz1 : Sl → Sl
  | .ow d => .sh d
  | s => s
def frzE : List Nat → Env → Env
  | [], ρ => ρ
  | i :: is, ρ => frzE is (match ρ[i]? with
    | some (.ow d) => ρ.set i (.sh d)
    | _ => ρ)
def sFrz (is : List Nat) (s : SF) : SF := fun ρ S => s (frzE is ρ) S
def sAsg (g : GF) (e : EF) : SF := fun ρ S => (e ρ S).bind fun r S => (kp r S).bind fun d S => match g d ρ with
  | some ρ => .ok (.nx ρ) S
  | none => .bad
def slOf (b : Bool) : Rr → Option Sl
  | (.sh, d) => some (.sh d)
  | (.ow, d) => some (if b = true then .ow d else .sh d)
  | (.pk, _) => none
def sAsgO (i : Nat) (e : EF) : SF := fun ρ S => (e ρ S).bind fun r S => match slOf true r with
  | some s => .ok (.nx (ρ.set i s)) S
  | none => .bad
def parE : List (Nat × Bool) → List Rr → Env → Option Env
  | [], [], ρ => some ρ
  | (i, b) :: is, r :: rs, ρ => (slOf b r).bind fun s => parE is rs (ρ.set i s)
  | _, _, _ => none
def sPar (is : List (Nat × Bool)) (es : RF) : SF := fun ρ S => (es ρ S).bind fun rs S => match parE is rs ρ with
  | some ρ => .ok (.nx ρ) S
  | none => .bad
def augR : Op → D → D → Option D
  | .add, .int i, .int j => some (.int (i + j))
  | .sub, .int i, .int j => some (.int (i - j))
  | .mul, .int i, .int j => if Small i ∨ Small j then some (.int (i * j)) else none
  | .fdiv, .int i, .int j => if DivOk j then some (.int (i / j)) else none
  | .mod, .int i, .int j => if 0 < j then some (.int (i % j)) else none
  | _, _, _ => none
def sAug (i : Nat) (op : Op) (e : EF) : SF := fun ρ S => match ρ[i]? with
  | some (.sh d) => (e ρ S).bind fun r S => match augR op d r.2 with
    | some v => .ok (.nx (ρ.set i (.sh v))) S
    | none => .bad
  | _ => .bad
def sAppend (i : Nat) (e : EF) : SF := fun ρ S => match ρ[i]? with
  | some (.ow (.lst xs)) => (e ρ S).bind fun r S => (kp r S).bind fun d S => if xs.length < szLine then .ok (.nx (ρ.set i (.ow (.lst (xs ++ [d]))))) S else .bad
  | _ => .bad
def sSetIx (i : Nat) (k e : EF) : SF := fun ρ S => match ρ[i]? with
  | some (.ow (.lst xs)) => (e ρ S).bind fun r S => (kp r S).bind fun d S => (k ρ S).bind fun x S => match x.2 with
    | .int j => match ixN xs.length j with
      | some j => .ok (.nx (ρ.set i (.ow (.lst (xs.set j d))))) S
      | none => .bad
    | _ => .bad
  | _ => .bad
/-- draw[j] += e, where draw is a cell -/
def sAugCell (i : Nat) (op : Op) (k e : EF) : SF := fun ρ S => match ρ[i]? with
  | some (.sh (.cel c)) => (k ρ S).bind fun x S => match x.2, S[c]? with
    | .int j, some (.lst xs) => if 0 ≤ j then match xs[j.toNat]? with
        | some d => (e ρ S).bind fun r S => match S[c]?, augR op d r.2 with
          | some (.lst ys), some v => if j.toNat < ys.length then .ok (.nx ρ) (S.set c (.lst (ys.set j.toNat v))) else .bad
          | _, _ => .bad
        | none => .bad
      else .bad
    | _, _ => .bad
  | _ => .bad
def sAugIx (i : Nat) (op : Op) (k e : EF) : SF := fun ρ S => match ρ[i]? with
  | some (.ow (.lst xs)) => (k ρ S).bind fun x S => match x.2 with
    | .int j => if 0 ≤ j then match xs[j.toNat]? with
        | some d => (e ρ S).bind fun r S => match augR op d r.2 with
          | some v => .ok (.nx (ρ.set i (.ow (.lst (xs.set j.toNat v))))) S
          | none => .bad
        | none => .bad
      else .bad
    | _ => .bad
  | _ => .bad
def sSetFl (fs : Nat → List Nat) (i f : Nat) (e : EF) : SF := fun ρ S => match ρ[i]? with
  | some (.ow (.obj c vs)) => (e ρ S).bind fun r S => (kp r S).bind fun d S => match place f (fs c) with
    | some j => if j < vs.length ∧ vs.length < 900 then .ok (.nx (ρ.set i (.ow (.obj c (vs.set j d))))) S else if j = vs.length ∧ j < 900 then .ok (.nx (ρ.set i (.ow (.obj c (vs ++ [d]))))) S else .bad
    | none => .bad
  | _ => .bad
def sPopAs (g : GF) (i : Nat) : SF := fun ρ S => match ρ[i]? with
  | some (.ow (.lst xs)) => match xs[xs.length - 1]? with
    | some d => match g d (ρ.set i (.ow (.lst xs.dropLast))) with
      | some ρ => .ok (.nx ρ) S
      | none => .bad
    | none => .bad
  | _ => .bad
def sCallI (F : FI) (i : Nat) (as : AF) : SF := fun ρ S => match ρ[i]? with
  | some (.ow d) => (as ρ S).bind fun xs S => (F d xs S).bind fun r S => .ok (.nx (ρ.set i (.ow r.2))) S
  | _ => .bad
def sEx (e : EF) : SF := fun ρ S => (e ρ S).bind fun r S => .ok (.nx ρ) S
def sRet (e : EF) : SF := fun ρ S => (e ρ S).bind fun r S => .ok (.ret r ρ) S
def sRetV (i : Nat) : SF := fun ρ S => match ρ[i]? with
  | some (.sh d) => .ok (.ret (.sh, d) ρ) S
  | some (.ow d) => .ok (.ret (.ow, d) ρ) S
  | _ => .bad
def sRetN : SF := fun ρ S => .ok (.ret (.sh, .non) ρ) S
def sIf (t : BF) (a b : SF) : SF := fun ρ S => (t ρ S).bind fun k S => if k = true then a ρ S else b ρ S
def forL (g : GF) (body : SF) : List D → Env → Sto → Res Out
  | [], ρ, S => .ok (.nx ρ) S
  | x :: xs, ρ, S => match g x ρ with
    | some ρ1 => (body ρ1 S).bind fun o S => match o with
      | .nx ρ => forL g body xs ρ S
      | .cont ρ => forL g body xs ρ S
      | .brk ρ => .ok (.nx ρ) S
      | .ret r ρ => .ok (.ret r ρ) S
    | none => .bad
def sFor (g : GF) (it : IF) (body : SF) : SF := fun ρ S => (it ρ S).bind fun xs S => forL g body xs ρ S
def whL (t : BF) (body : SF) : Nat → Env → Sto → Res Out
  | 0, _, _ => .bad
  | n + 1, ρ, S => (t ρ S).bind fun k S => if k = true then (body ρ S).bind fun o S => match o with
      | .nx ρ => whL t body n ρ S
      | .cont ρ => whL t body n ρ S
      | .brk ρ => .ok (.nx ρ) S
      | .ret r ρ => .ok (.ret r ρ) S
    else .ok (.nx ρ) S
@[irreducible] def wFuel : Nat := 10 ^ 40
def sWhile (n : Nat) (t : BF) (body : SF) : SF := whL t body n
def sBrk : SF := fun ρ S => .ok (.brk ρ) S
def sCont : SF := fun ρ S => .ok (.cont ρ) S
def sDead : SF := fun _ _ => .bad
/-! defs -/
def fnR (np ns : Nat) (body : SF) : FF := fun ds S => if ds.length = np then (body (ds.map Sl.sh ++ List.replicate (ns - np) Sl.no) S).bind fun o S => match o with
  | .nx _ => .ok (.sh, .non) S
  | .ret r _ => (kp r S).bind fun _ S => .ok r S
  | _ => .bad
  else .bad
def fin0 (d : D) (ρ : Env) (S : Sto) : Res (D × D) := match ρ[(0 : Nat)]? with
  | some (.ow d') => .ok (d, d') S
  | _ => .bad
def fnI (np ns : Nat) (body : SF) : FI := fun d ds S => if ds.length + 1 = np then (body (Sl.ow d :: (ds.map Sl.sh ++ List.replicate (ns - np) Sl.no)) S).bind fun o S => match o with
  | .nx ρ => fin0 .non ρ S
  | .ret (.sh, v) ρ => fin0 v ρ S
  | _ => .bad
  else .bad
end CC
end

section
/-! CcM: loops and comprehensions of the small language, plain. -/
namespace CC
open PySem
theorem forL_rel {g : GF} {body : SF} (P : Nat → Env → Sto → Prop) : ∀ (xs : List D) (k : Nat) (ρ : Env) (S : Sto), P k ρ S →
    (∀ (j : Nat) (d : D) (ρ : Env) (S : Sto), xs[j]? = some d → P (k + j) ρ S → ∃ ρ1 ρ' S', g d ρ = some ρ1 ∧ (body ρ1 S = .ok (.nx ρ') S' ∨ body ρ1 S = .ok (.cont ρ') S') ∧ P (k + j + 1) ρ' S') →
    ∃ ρ' S', forL g body xs ρ S = .ok (.nx ρ') S' ∧ P (k + xs.length) ρ' S'
  | [], k, ρ, S, h, _ => ⟨ρ, S, rfl, h⟩
  | x :: xs, k, ρ, S, h, hs => by
    obtain ⟨ρ1, ρ', S', h1, h2, h3⟩ := hs 0 x ρ S rfl h
    obtain ⟨ρ2, S2, h4, h5⟩ := forL_rel P xs (k + 1) ρ' S' h3 fun j d ρ S hj hp => by
      have e : k + 1 + j = k + (j + 1) := by omega
      rw [e] at hp ⊢
      exact hs (j + 1) d ρ S (by simpa using hj) hp
    refine ⟨ρ2, S2, ?_, by rw [List.length_cons, show k + (xs.length + 1) = k + 1 + xs.length by omega]; exact h5⟩
    rw [forL, h1]
    rcases h2 with h2 | h2 <;> simp [h2, h4]
theorem forL_inv {g : GF} {body : SF} (P : Nat → Env → Sto → Prop) (xs : List D) (ρ : Env) (S : Sto) (h0 : P 0 ρ S)
    (hs : ∀ (j : Nat) (d : D) (ρ : Env) (S : Sto), xs[j]? = some d → P j ρ S → ∃ ρ1 ρ' S', g d ρ = some ρ1 ∧ (body ρ1 S = .ok (.nx ρ') S' ∨ body ρ1 S = .ok (.cont ρ') S') ∧ P (j + 1) ρ' S') :
    ∃ ρ' S', forL g body xs ρ S = .ok (.nx ρ') S' ∧ P xs.length ρ' S' := by
  obtain ⟨ρ', S', h1, h2⟩ := forL_rel P xs 0 ρ S h0 fun j d ρ S hj hp => by
    rw [Nat.zero_add] at hp ⊢
    exact hs j d ρ S hj hp
  rw [Nat.zero_add] at h2
  exact ⟨ρ', S', h1, h2⟩
theorem forL_range {g : GF} {body : SF} (P : Nat → Env → Sto → Prop) (lo : Int) (n : Nat) (ρ : Env) (S : Sto) (h0 : P 0 ρ S)
    (hs : ∀ (j : Nat) (ρ : Env) (S : Sto), j < n → P j ρ S → ∃ ρ1 ρ' S', g (.int (lo + (j : Int))) ρ = some ρ1 ∧ (body ρ1 S = .ok (.nx ρ') S' ∨ body ρ1 S = .ok (.cont ρ') S') ∧ P (j + 1) ρ' S') :
    ∃ ρ' S', forL g body (rangeD lo n) ρ S = .ok (.nx ρ') S' ∧ P n ρ' S' := by
  obtain ⟨ρ', S', h1, h2⟩ := forL_inv P (rangeD lo n) ρ S h0 fun j d ρ S hj hp => by
    unfold rangeD at hj
    rw [List.getElem?_map] at hj
    obtain ⟨k, h1, rfl⟩ := Option.map_eq_some_iff.mp hj
    have hl := (List.getElem?_eq_some_iff.mp h1).1
    rw [List.length_range] at hl
    rw [List.getElem?_range hl] at h1
    cases h1
    exact hs _ ρ S hl hp
  rw [show (rangeD lo n).length = n by unfold rangeD; simp] at h2
  exact ⟨ρ', S', h1, h2⟩
/-- a loop whose names are told by the turn; nothing else changes -/
theorem forL_fun {g : GF} {body : SF} (env : Nat → Env) (xs : List D) (S : Sto) (h : ∀ (j : Nat) (d : D), xs[j]? = some d → ∃ ρ1, g d (env j) = some ρ1 ∧ body ρ1 S = .ok (.nx (env (j + 1))) S) : forL g body xs (env 0) S = .ok (.nx (env xs.length)) S := by
  obtain ⟨ρ', S', h1, h2, h3⟩ := forL_rel (fun k ρ S' => ρ = env k ∧ S' = S) xs 0 (env 0) S ⟨rfl, rfl⟩ (by
    rintro j d ρ S' hj ⟨rfl, rfl⟩
    obtain ⟨ρ1, h1, h2⟩ := h j d hj
    rw [Nat.zero_add]
    exact ⟨ρ1, _, _, h1, .inl h2, rfl, rfl⟩)
  rw [h1, h2, h3, Nat.zero_add]
theorem compL_map {f : D → Sto → Res (Option D)} (h : D → D) {S : Sto} : ∀ {xs : List D}, (∀ x ∈ xs, f x S = .ok (some (h x)) S) → compL f xs S = .ok (xs.map h) S
  | [], _ => rfl
  | x :: xs, hx => by
    rw [compL, hx x List.mem_cons_self]
    simp [compL_map h fun y hy => hx y (List.mem_cons_of_mem _ hy)]
theorem compL_fmap {f : D → Sto → Res (Option D)} (h : D → Option D) {S : Sto} : ∀ {xs : List D}, (∀ x ∈ xs, f x S = .ok (h x) S) → compL f xs S = .ok (xs.filterMap h) S
  | [], _ => rfl
  | x :: xs, hx => by
    rw [compL, hx x List.mem_cons_self]
    simp [compL_fmap h fun y hy => hx y (List.mem_cons_of_mem _ hy)]
    cases e : h x <;> simp [List.filterMap_cons, e]
theorem rangeD_get {lo : Int} {n j : Nat} {d : D} (h : (rangeD lo n)[j]? = some d) : j < n ∧ d = .int (lo + j) := by
  unfold rangeD at h
  rw [List.getElem?_map] at h
  obtain ⟨k, h1, rfl⟩ := Option.map_eq_some_iff.mp h
  have hl := (List.getElem?_eq_some_iff.mp h1).1
  rw [List.length_range] at hl
  rw [List.getElem?_range hl] at h1
  cases h1
  exact ⟨hl, rfl⟩
theorem rangeD_len (lo : Int) (n : Nat) : (rangeD lo n).length = n := by unfold rangeD; simp
theorem enumD_get {xs : List D} {j : Nat} {d : D} (h : (enumD xs)[j]? = some d) : ∃ x, xs[j]? = some x ∧ d = .tup [.int (j : Nat), x] := by
  unfold enumD at h
  rw [List.getElem?_map, List.getElem?_zipIdx] at h
  obtain ⟨⟨x, i⟩, h1, rfl⟩ := Option.map_eq_some_iff.mp h
  obtain ⟨y, h2, h3⟩ := Option.map_eq_some_iff.mp h1
  cases h3
  exact ⟨x, h2, by simp⟩
theorem enumD_len (xs : List D) : (enumD xs).length = xs.length := by unfold enumD; simp
theorem ixN_nat {n i : Nat} (h : i < n) : ixN n (i : Int) = some i := by unfold ixN; rw [if_pos (by omega), if_pos (by omega)]; simp
theorem rng62 {n : Nat} (h : n < 2 ^ 40) : Rng62 (n : Int) := by unfold Rng62; omega
theorem ix_lst {xs : List D} {i : Nat} {d : D} (h : xs[i]? = some d) (S : Sto) : ixR (.lst xs) (.int (i : Nat)) S = .ok (.sh, d) S := by
  unfold ixR; simp only [ixN_nat (List.getElem?_eq_some_iff.mp h).1, Option.bind_some, h]; rfl
theorem ix_tup {xs : List D} {i : Nat} {d : D} (h : xs[i]? = some d) (S : Sto) : ixR (.tup xs) (.int (i : Nat)) S = .ok (.sh, d) S := by
  unfold ixR; simp only [ixN_nat (List.getElem?_eq_some_iff.mp h).1, Option.bind_some, h]; rfl
theorem ix_tup0 (a : D) (r : List D) (S : Sto) : ixR (.tup (a :: r)) (.int 0) S = .ok (.sh, a) S := ix_tup (i := 0) rfl S
theorem ix_tup1 (a b : D) (r : List D) (S : Sto) : ixR (.tup (a :: b :: r)) (.int 1) S = .ok (.sh, b) S := ix_tup (i := 1) rfl S
theorem ix_tup2 (a b c : D) (r : List D) (S : Sto) : ixR (.tup (a :: b :: c :: r)) (.int 2) S = .ok (.sh, c) S := ix_tup (i := 2) rfl S
theorem ix_tup3 (a b c d : D) (r : List D) (S : Sto) : ixR (.tup (a :: b :: c :: d :: r)) (.int 3) S = .ok (.sh, d) S := ix_tup (i := 3) rfl S
theorem small_nat {n : Nat} (h : n < 2 ^ 60) : Small (n : Int) := by unfold Small; omega
theorem divOk_nat {n : Nat} (h : 0 < n) (h2 : n.log2 < 9000) : DivOk (n : Int) := ⟨by omega, by simpa using h2⟩
theorem divOk_lit {n : Nat} (h : 0 < n) (h2 : n < 2 ^ 60) : DivOk (n : Int) := divOk_nat h (by
  have := (Nat.log2_lt (n := n) (k := 60) (by omega)).mpr h2
  omega)
theorem plains_map {α : Type} (f : α → D) (h : ∀ a, plain (f a) = true) : ∀ l : List α, plains (l.map f) = true
  | [] => rfl
  | a :: l => by rw [List.map_cons]; show (plain (f a) && plains (l.map f)) = true; rw [h, plains_map f h l]; rfl
theorem deps_map {α : Type} (f : α → D) (k : Nat) (h : ∀ a, dep (f a) ≤ k) : ∀ l : List α, deps (l.map f) ≤ k
  | [] => Nat.zero_le _
  | a :: l => by
    rw [List.map_cons]
    show max (dep (f a)) (deps (l.map f)) ≤ k
    have := deps_map f k h l
    have := h a
    omega
theorem good_lst {α : Type} (f : α → D) (k : Nat) (h : ∀ a, plain (f a) = true) (h2 : ∀ a, dep (f a) ≤ k) (hk : k ≤ 50) (l : List α) : good (.lst (l.map f)) = true := by
  have := deps_map f k h2 l
  unfold good
  rw [Bool.and_eq_true]
  exact ⟨plains_map f h l, decide_eq_true (show deps (l.map f) + 1 ≤ 60 by omega)⟩
theorem good_tup {α : Type} (f : α → D) (k : Nat) (h : ∀ a, plain (f a) = true) (h2 : ∀ a, dep (f a) ≤ k) (hk : k ≤ 50) (l : List α) : good (.tup (l.map f)) = true := by
  have := deps_map f k h2 l
  unfold good
  rw [Bool.and_eq_true]
  exact ⟨plains_map f h l, decide_eq_true (show deps (l.map f) + 1 ≤ 60 by omega)⟩
def nI (n : Nat) : D := .int (n : Int)
theorem good_nI (n : Nat) : good (.int (n : Int)) = true := rfl
theorem gd_int (n : Int) : good (.int n) = true := rfl
theorem good_nats (l : List Nat) : good (.lst (l.map nI)) = true := good_lst nI 0 (fun _ => rfl) (fun _ => Nat.le_refl _) (by omega) l
theorem good_tnats (l : List Nat) : good (.tup (l.map nI)) = true := good_tup nI 0 (fun _ => rfl) (fun _ => Nat.le_refl _) (by omega) l
theorem index_nats {ns : List Nat} {p x : Nat} (h : ns[p]? = some x) (nd : ns.Nodup) (S : Sto) : indexR (.lst (ns.map nI)) (.int (x : Int)) S = .ok (.sh, .int (p : Nat)) S := by
  have hp : p < ns.length := (List.getElem?_eq_some_iff.mp h).1
  have e : idxD (ns.map nI) (.int (x : Int)) = some p := by
    unfold idxD
    rw [List.findIdx?_eq_some_iff_getElem]
    refine ⟨by rw [List.length_map]; exact hp, ?_, fun j hj => ?_⟩
    · rw [List.getElem_map]
      have : ns[p] = x := (List.getElem?_eq_some_iff.mp h).2
      rw [this]
      show ((x : Int) == (x : Int)) = true
      simp
    · rw [List.getElem_map]
      have hjl : j < ns.length := by omega
      have hne : ns[j] ≠ x := fun e => by
        have e2 : ns[j]? = ns[p]? := by rw [List.getElem?_eq_getElem hjl, e, h]
        have := (List.getElem?_inj hjl nd).mp e2
        omega
      show ¬ ((ns[j] : Int) == (x : Int)) = true
      simp
      omega
  unfold indexR
  simp only [gd_int, good_nats, Bool.and_self, if_true, e]
  rfl
theorem sx {a b : SF} {ρ ρ' : Env} {S S' : Sto} {R : Res Out} (h : a ρ S = .ok (.nx ρ') S') (h2 : b ρ' S' = R) : sSeq a b ρ S = R := by unfold sSeq; rw [h]; exact h2
theorem sx_ret {a b : SF} {ρ ρ' : Env} {S S' : Sto} {r : Rr} (h : a ρ S = .ok (.ret r ρ') S') : sSeq a b ρ S = .ok (.ret r ρ') S' := by unfold sSeq; rw [h]; rfl
theorem asg_sh {g : GF} {e : EF} {ρ ρ' : Env} {S S' : Sto} {d : D} (h : e ρ S = .ok (.sh, d) S') (hg : g d ρ = some ρ') : sAsg g e ρ S = .ok (.nx ρ') S' := by unfold sAsg; rw [h]; simp [hg]
theorem asg_ow {g : GF} {e : EF} {ρ ρ' : Env} {S S' : Sto} {d : D} (h : e ρ S = .ok (.ow, d) S') (hg : g d ρ = some ρ') : sAsg g e ρ S = .ok (.nx ρ') S' := by unfold sAsg; rw [h]; simp [hg]
theorem for_sx {g : GF} {it : IF} {body : SF} {ρ ρ' : Env} {S S1 S' : Sto} {xs : List D} (h : it ρ S = .ok xs S1) (h2 : forL g body xs ρ S1 = .ok (.nx ρ') S') : sFor g it body ρ S = .ok (.nx ρ') S' := by unfold sFor; rw [h]; exact h2
theorem if_sx {t : BF} {a b : SF} {ρ : Env} {S S1 : Sto} {k : Bool} {R : Res Out} (h : t ρ S = .ok k S1) (h2 : (if k = true then a ρ S1 else b ρ S1) = R) : sIf t a b ρ S = R := by unfold sIf; rw [h]; exact h2
theorem fnR_ret {np ns : Nat} {B : SF} {ds : List D} {S S' : Sto} {t : Tg} {d : D} {ρ : Env} (hl : ds.length = np) (h : B (ds.map Sl.sh ++ List.replicate (ns - np) Sl.no) S = .ok (.ret (t, d) ρ) S') (ht : t ≠ .pk) : fnR np ns B ds S = .ok (t, d) S' := by
  unfold fnR; rw [if_pos hl, h]
  cases t
  · rfl
  · rfl
  · exact absurd rfl ht
theorem comp_ok {elt : EF} {g : GF} {it : IF} {c : BF} {ρ : Env} {S S1 S' : Sto} {xs ys : List D} (h : it ρ S = .ok xs S1) (h2 : compL (cBody elt g c ρ) xs S1 = .ok ys S') (hl : xs.length ≤ szLine) : eComp elt g it c ρ S = .ok (.ow, .lst ys) S' := by
  unfold eComp; rw [h]; simp only [Res.bind_ok, h2, if_pos hl]; rfl
theorem eq_int (neg : Bool) (i j : Int) (S : Sto) : eqR neg (.int i) (.int j) S = .ok (.bl (neg != (i == j))) S := by unfold eqR; simp only [gd_int, Bool.and_self, if_true]; rfl
theorem bls_true {α : Type} : ∀ l : List α, blsOf (l.map fun _ => D.bl true) = some (l.map fun _ => true)
  | [] => rfl
  | a :: l => by rw [List.map_cons]; unfold blsOf; rw [bls_true l]; rfl
theorem if_nx {t : BF} {a : SF} {ρ : Env} {S S' : Sto} (h : t ρ S = .ok false S') : sIf t a sNil ρ S = .ok (.nx ρ) S' := by unfold sIf; rw [h]; rfl
theorem all_ok {elt : EF} {g : GF} {it : IF} {ρ : Env} {S : Sto} {xs : List D} (h : it ρ S = .ok xs S) (h2 : ∀ x ∈ xs, cBody elt g tYes ρ x S = .ok (some (.bl true)) S) (hl : xs.length ≤ szLine) : tT (eBt allR (pCons (eComp elt g it tYes) aNil)) ρ S = .ok true S := by
  have h3 := comp_ok h (compL_map (fun _ => D.bl true) h2) hl
  have h4 : allR [.lst (xs.map fun _ => D.bl true)] S = .ok (.sh, .bl true) S := by
    unfold allR
    simp only [bls_true]
    show okS (.bl ((xs.map fun _ => true).all id)) S = _
    have : (xs.map fun _ => true).all id = true := by simp
    rw [this]; rfl
  unfold tT eBt pCons
  simp only [h3, Res.bind_ok]
  unfold aNil
  simp only [Res.bind_ok, h4]
  rfl
theorem intsOf_nI (l : List Nat) : intsOf (l.map nI) = some (l.map fun (n : Nat) => (n : Int)) := by
  induction l with
  | nil => rfl
  | cons a l ih => rw [List.map_cons]; show (intsOf (l.map nI)).map _ = _; rw [ih]; rfl
theorem lenset_ok (l : List Nat) (nd : l.Nodup) (h : l.length ≤ 4000) (S : Sto) : lensetR [.lst (l.map nI)] S = .ok (.sh, .int (l.length : Nat)) S := by
  unfold lensetR
  simp only [intsOf_nI]
  have nd2 : (l.map fun (n : Nat) => (n : Int)).Nodup := by
    have : ∀ l : List Nat, l.Nodup → (l.map fun (n : Nat) => (n : Int)).Nodup := by
      intro l nd
      induction l with
      | nil => simp
      | cons a l ih =>
        rw [List.nodup_cons] at nd
        rw [List.map_cons, List.nodup_cons]
        refine ⟨fun hm => ?_, ih nd.2⟩
        obtain ⟨b, hb, e⟩ := List.mem_map.mp hm
        have : b = a := by omega
        exact nd.1 (this ▸ hb)
    exact this l nd
  rw [if_pos ⟨nd2, by rw [List.length_map]; exact h⟩, List.length_map]
  rfl
theorem bin_ok {op : Op} {a b : EF} {ρ : Env} {S S1 S2 : Sto} {x y : Rr} {R : Res Rr} (h : a ρ S = .ok x S1) (h2 : b ρ S1 = .ok y S2) (h3 : binR op x.2 y.2 S2 = R) : eBin op a b ρ S = R := by
  unfold eBin CC.e2; rw [h]; simp only [Res.bind_ok]; rw [h2]; exact h3
theorem szl (n : Nat) (h : n ≤ 10000000) : n ≤ szLine := by unfold szLine; omega
section
variable {α : Type} {le : α → α → Bool}
theorem insB_perm (x : α) : ∀ l : List α, (insB le x l).Perm (x :: l)
  | [] => .refl _
  | y :: r => by
    unfold insB
    by_cases h : le x y = true
    · rw [if_pos h]
    · rw [if_neg h]
      exact ((insB_perm x r).cons y).trans (.swap x y r)
theorem isort_perm : ∀ l : List α, (isort le l).Perm l
  | [] => .refl _
  | x :: r => (insB_perm x _).trans ((isort_perm r).cons x)
theorem insB_srt (tot : ∀ a b, le a b = true ∨ le b a = true) (tr : ∀ a b c, le a b = true → le b c = true → le a c = true) (x : α) : ∀ l : List α, l.Pairwise (fun a b => le a b = true) → (insB le x l).Pairwise fun a b => le a b = true
  | [], _ => by simp [insB]
  | y :: r, h => by
    rw [List.pairwise_cons] at h
    unfold insB
    by_cases q : le x y = true
    · rw [if_pos q, List.pairwise_cons, List.pairwise_cons]
      refine ⟨fun a ha => ?_, h⟩
      rcases List.mem_cons.mp ha with rfl | ha
      · exact q
      · exact tr _ _ _ q (h.1 a ha)
    · rw [if_neg q, List.pairwise_cons]
      refine ⟨fun a ha => ?_, insB_srt tot tr x r h.2⟩
      rcases List.mem_cons.mp ((insB_perm x r).mem_iff.mp ha) with rfl | ha
      · exact (tot _ _).resolve_left q
      · exact h.1 a ha
theorem isort_srt (tot : ∀ a b, le a b = true ∨ le b a = true) (tr : ∀ a b c, le a b = true → le b c = true → le a c = true) : ∀ l : List α, (isort le l).Pairwise fun a b => le a b = true
  | [] => .nil
  | x :: r => insB_srt tot tr x _ (isort_srt tot tr r)
theorem perm_srt_eq (anti : ∀ a b, le a b = true → le b a = true → a = b) : ∀ {l m : List α}, l.Perm m → l.Pairwise (fun a b => le a b = true) → m.Pairwise (fun a b => le a b = true) → l = m
  | [], m, p, _, _ => by rw [List.nil_perm.mp p]
  | x :: l, [], p, _, _ => by have := p.length_eq; cases this
  | x :: l, y :: m, p, h1, h2 => by
    rw [List.pairwise_cons] at h1 h2
    have e : x = y := by
      rcases List.mem_cons.mp (p.mem_iff.mp List.mem_cons_self) with h | h
      · exact h
      · rcases List.mem_cons.mp (p.mem_iff.mpr List.mem_cons_self) with q | q
        · exact q.symm
        · exact anti _ _ (h1.1 _ q) (h2.1 _ h)
    subst e
    rw [perm_srt_eq anti (List.perm_cons _ |>.mp p) h1.2 h2.2]
end
theorem leI_tot (a b : Int) : leI a b = true ∨ leI b a = true := by unfold leI; simp; omega
theorem leI_tr (a b c : Int) (h : leI a b = true) (h2 : leI b c = true) : leI a c = true := by unfold leI at *; simp at *; omega
theorem leI_anti (a b : Int) (h : leI a b = true) (h2 : leI b a = true) : a = b := by unfold leI at *; simp at *; omega
theorem leP_iff {a b : Int × Int} : leP a b = true ↔ a.1 < b.1 ∨ (a.1 = b.1 ∧ a.2 ≤ b.2) := by unfold leP; simp
theorem leP_tot (a b : Int × Int) : leP a b = true ∨ leP b a = true := by rw [leP_iff, leP_iff]; omega
theorem leP_tr (a b c : Int × Int) (h : leP a b = true) (h2 : leP b c = true) : leP a c = true := by rw [leP_iff] at *; omega
theorem leP_anti (a b : Int × Int) (h : leP a b = true) (h2 : leP b a = true) : a = b := by
  rw [leP_iff] at *
  obtain ⟨a1, a2⟩ := a
  obtain ⟨b1, b2⟩ := b
  have : a1 = b1 ∧ a2 = b2 := by simp at *; omega
  rw [this.1, this.2]
mutual
theorem eqv_refl : ∀ d : D, plain d = true → eqv d d = true
  | .non, _ => rfl
  | .bl b, _ => by show (b == b) = true; simp
  | .int i, _ => by show (i == i) = true; simp
  | .str x, _ => by show (x == x) = true; simp
  | .lst xs, h => eqvs_refl xs h
  | .tup xs, h => eqvs_refl xs h
  | .dK _, h => by cases h
  | .dT _, h => by cases h
  | .obj _ _, h => by cases h
  | .cel _, h => by cases h
  | .fn _ _, h => by cases h
  | .scr _, h => by cases h
theorem eqvs_refl : ∀ ds : List D, plains ds = true → eqvs ds ds = true
  | [], _ => rfl
  | d :: ds, h => by
    have h2 : (plain d && plains ds) = true := h
    rw [Bool.and_eq_true] at h2
    show (eqv d d && eqvs ds ds) = true
    rw [eqv_refl d h2.1, eqvs_refl ds h2.2]; rfl
end
theorem good_pl {d : D} (h : good d = true) : plain d = true := by
  unfold good at h
  rw [Bool.and_eq_true] at h
  exact h.1
theorem ne_self {d : D} (h : good d = true) (S : Sto) : eqR true d d S = .ok (.bl false) S := by
  have h1 := eqv_refl d (good_pl h)
  cases d <;> first | (exfalso; have := good_pl h; cases this; done) | (unfold eqR; simp only [h, h1, Bool.and_self, if_true]; rfl)
/-- two that are alike -/
theorem ne_ff {a b : EF} {ρ : Env} {S S1 S2 : Sto} {t1 t2 : Tg} {d : D} (h : a ρ S = .ok (t1, d) S1) (h2 : b ρ S1 = .ok (t2, d) S2) (hg : good d = true) : tT (eCmp .ne a b) ρ S = .ok false S2 := by
  unfold tT eCmp
  rw [h]; simp only [Res.bind_ok]; rw [h2]
  show ((eqR true d d S2).bind _).bind _ = _
  rw [ne_self hg]; rfl
theorem or_ff {a b : BF} {ρ : Env} {S S1 : Sto} {R : Res Bool} (h : a ρ S = .ok false S1) (h2 : b ρ S1 = R) : tOr a b ρ S = R := by unfold tOr; rw [h]; exact h2
theorem call_ok {F : FF} {as : AF} {ρ : Env} {S S1 : Sto} {ds : List D} {R : Res Rr} (h : as ρ S = .ok ds S1) (h2 : F ds S1 = R) : eCall F as ρ S = R := by unfold eCall; rw [h]; exact h2
theorem bt1_ok {g : List D → Sto → Res Rr} {e : EF} {ρ : Env} {S S1 : Sto} {x : Rr} {R : Res Rr} (h : e ρ S = .ok x S1) (h2 : g [x.2] S1 = R) : eBt g (pCons e aNil) ρ S = R := by unfold eBt pCons; rw [h]; exact h2
theorem any_ff {e : EF} {g : GF} {it : IF} {ρ : Env} {S : Sto} {xs : List D} (h : it ρ S = .ok xs S) (h2 : ∀ x ∈ xs, cBody e g tYes ρ x S = .ok (some (.bl false)) S) (hl : xs.length ≤ szLine) : tT (eBt anyR (pCons (eComp e g it tYes) aNil)) ρ S = .ok false S := by
  have h3 := comp_ok h (compL_map (fun _ => D.bl false) h2) hl
  have bls : ∀ l : List D, blsOf (l.map fun _ => D.bl false) = some (l.map fun _ => false) := by
    intro l
    induction l with
    | nil => rfl
    | cons a l ih => rw [List.map_cons]; unfold blsOf; rw [ih]; rfl
  have h4 : anyR [.lst (xs.map fun _ => D.bl false)] S = .ok (.sh, .bl false) S := by
    unfold anyR
    simp only [bls]
    show okS (.bl ((xs.map fun _ => false).any id)) S = _
    have : (xs.map fun _ => false).any id = false := by simp
    rw [this]; rfl
  unfold tT
  rw [bt1_ok h3 h4]
  rfl
theorem prsOf_of (ps : List (Int × Int)) : prsOf (ps.map ofPr) = some ps := by
  induction ps with
  | nil => rfl
  | cons p ps ih =>
    rw [List.map_cons]
    show (prsOf (ps.map ofPr)).map _ = _
    rw [ih]; rfl
theorem sorted_pairs (ps : List (Int × Int)) (h : ps ≠ []) (S : Sto) : sortedR [.lst (ps.map ofPr)] S = .ok (.ow, .lst ((isort leP ps).map ofPr)) S := by
  cases ps with
  | nil => exact absurd rfl h
  | cons p ps =>
    have h1 : intsOf ((p :: ps).map ofPr) = none := rfl
    unfold sortedR
    simp only [h1, prsOf_of]
    rfl
theorem isort_leP_perm {l m : List (Int × Int)} (h : l.Perm m) : isort leP l = isort leP m := perm_srt_eq leP_anti (((isort_perm l).trans h).trans (isort_perm m).symm) (isort_srt leP_tot leP_tr l) (isort_srt leP_tot leP_tr m)
/-- all of 0 .. n - 1, told once each -/
theorem perm_range : ∀ (n : Nat) (l : List Nat), l.Nodup → l.length = n → (∀ x ∈ l, x < n) → l.Perm (List.range n) := by
  intro n l nd hl hx
  have : ∀ (n : Nat) (l : List Nat), l.Nodup → n ≤ l.length → (∀ x ∈ l, x < n) → l.Perm (List.range n) := by
    intro n
    induction n with
    | zero =>
      intro l _ _ hx
      cases l with
      | nil => exact .refl _
      | cons a l => exact absurd (hx a List.mem_cons_self) (by omega)
    | succ n ih =>
      intro l nd hl hx
      have hm : n ∈ l := by
        by_cases h : n ∈ l
        · exact h
        · exfalso
          have h1 : ∀ x ∈ l, x < n := fun x hxl => by
            have := hx x hxl
            have : x ≠ n := fun e => h (e ▸ hxl)
            omega
          have h2 := (ih (l.take n) (List.Nodup.sublist (List.take_sublist n l) nd) (by rw [List.length_take]; omega) fun x hx => h1 x (List.mem_of_mem_take hx))
          have h3 := (List.drop_sublist n l)
          cases hd : l.drop n with
          | nil =>
            have := congrArg List.length hd
            rw [List.length_drop] at this
            simp at this; omega
          | cons a r =>
            have ha : a ∈ l := h3.mem (by rw [hd]; exact List.mem_cons_self)
            have hat : a ∈ l.take n := h2.mem_iff.mpr (List.mem_range.mpr (h1 a ha))
            have hnd : (l.take n ++ l.drop n).Nodup := by rw [List.take_append_drop]; exact nd
            rw [List.nodup_append] at hnd
            exact hnd.2.2 a hat a (by rw [hd]; exact List.mem_cons_self) rfl
      have h1 := ih (l.erase n) (nd.erase n) (by rw [List.length_erase_of_mem hm]; omega) fun x hxe => by
        have hxl := List.mem_of_mem_erase hxe
        have := hx x hxl
        have : x ≠ n := fun e => by
          subst e
          exact (List.Nodup.not_mem_erase nd) hxe
        omega
      rw [List.range_succ]
      exact (List.perm_cons_erase hm).trans ((h1.cons n).trans (List.perm_append_comm (l₁ := [n])))
  exact this n l nd (by omega) hx
end CC
end

section
/-! CcS1: what a value of the small language is in the heap; steps; the readings. -/
namespace CC
open PySem PySem.Spec PyProof.Rows
open L2 (V HO Hp upd SqL SqT Vals upd_same upd_ne ne_of_none)

/-- names of classes and fields -/
structure Tab where
  ca : Nat → Addr
  fs : Nat → List Nat
  nm : Nat → Str
def Tab.fl (T : Tab) (c : Nat) : List Str := (T.fs c).map T.nm

section
variable (K : PySem.W.Frag) (T : Tab) (I : Hp) (A : List Addr)
mutual
def Rep : D → V → Prop
  | .non, v => v = .non
  | .bl b, v => v = .bl b
  | .int i, v => v = .int i
  | .str x, v => v = .str x
  | .tup ds, v => ∃ a vs, v = .ref a ∧ I a = some (.tup vs) ∧ Reps ds vs
  | .lst ds, v => ∃ a vs, v = .ref a ∧ I a = some (.lst vs) ∧ Reps ds vs
  | .dK kvs, v => ∃ a ws, v = .ref a ∧ L2.Rd I a (.dK ws) ∧ RepK kvs ws
  | .dT kvs, v => ∃ a ws, v = .ref a ∧ L2.Rd I a (.dT ws) ∧ RepT kvs ws
  | .obj c ds, v => ∃ a dx vs, v = .ref a ∧ I a = some (.ins (T.ca c) dx ((T.fl c).zip vs)) ∧ vs.length ≤ (T.fl c).length ∧ Reps ds vs
  | .cel k, v => ∃ a, v = .ref a ∧ A[k]? = some a
  | .fn _ _, _ => False
  | .scr ns, v => ∃ a, v = .ref a ∧ SqL K I a (ns.map V.int)
def Reps : List D → List V → Prop
  | [], vs => vs = []
  | d :: ds, vs => ∃ v r, vs = v :: r ∧ Rep d v ∧ Reps ds r
def RepK : List (Ky × D) → List (Ky × V) → Prop
  | [], vs => vs = []
  | (k, d) :: ds, vs => ∃ v r, vs = (k, v) :: r ∧ Rep d v ∧ RepK ds r
def RepT : List (List Ky × D) → List (List Ky × V) → Prop
  | [], vs => vs = []
  | (k, d) :: ds, vs => ∃ v r, vs = (k, v) :: r ∧ Rep d v ∧ RepT ds r
end
end

def EH : Hp := fun _ => none
/-- the content: the outermost container as it stands in H -/
def RepC (K : PySem.W.Frag) (T : Tab) (H I : Hp) (A : List Addr) : D → V → Prop
  | .lst ds, v => ∃ a vs, v = .ref a ∧ H a = some (.lst vs) ∧ Reps K T I A ds vs ∧ a ∉ A
  | .dK kvs, v => ∃ a ws, v = .ref a ∧ L2.Rd H a (.dK ws) ∧ RepK K T I A kvs ws ∧ a ∉ A
  | .dT kvs, v => ∃ a ws, v = .ref a ∧ L2.Rd H a (.dT ws) ∧ RepT K T I A kvs ws ∧ a ∉ A
  | .obj c ds, v => ∃ a dx vs, v = .ref a ∧ H a = some (.ins (T.ca c) dx ((T.fl c).zip vs)) ∧ vs.length ≤ (T.fl c).length ∧ Reps K T I A ds vs ∧ a ∉ A
  | d, v => Rep K T I A d v
/-- what a name owns -/
def OwnC (K : PySem.W.Frag) (T : Tab) (H I : Hp) (A : List Addr) : D → Addr → Prop
  | .lst ds, a => ∃ vs, H a = some (.lst vs) ∧ Reps K T I A ds vs
  | .dK kvs, a => ∃ ws, H a = some (.dK ws) ∧ RepK K T I A kvs ws
  | .dT kvs, a => ∃ ws, H a = some (.dT ws) ∧ RepT K T I A kvs ws
  | .obj c ds, a => ∃ dx vs, H a = some (.ins (T.ca c) dx ((T.fl c).zip vs)) ∧ vs.length ≤ (T.fl c).length ∧ Reps K T I A ds vs
  | _, _ => False

/-- a step of the heap while an expression is evaluated -/
structure Step (H I : Hp) (A : List Addr) (H' I' : Hp) (A' : List Addr) : Prop where
  ext : ∀ a o, H a = some o → a ∉ A → H' a = some o
  dom : ∀ a, H a ≠ none → H' a ≠ none
  imm : ∀ a o, I a = some o → I' a = some o
  new : ∀ a, I' a ≠ none → I a ≠ none ∨ H a = none
  cel : ∃ B, A' = A ++ B ∧ ∀ a ∈ B, H a = none
/-- the state of the heap -/
structure St0 (K : PySem.W.Frag) (T : Tab) (H : Hp) (S : Sto) (I : Hp) (A : List Addr) : Prop where
  sub : ∀ a o, I a = some o → H a = some o
  len : A.length = S.length
  nd : A.Nodup
  cel : ∀ (k : Nat) (a : Addr) (d : D), A[k]? = some a → S[k]? = some d → I a = none ∧ ∃ ds vs, d = .lst ds ∧ H a = some (.lst vs) ∧ Reps K T I A ds vs

theorem Step.refl {H I : Hp} {A : List Addr} : Step H I A H I A :=
  ⟨fun _ _ h _ => h, fun _ h => h, fun _ _ h => h, fun _ h => .inl h, [], by simp, fun _ h => absurd h (by simp)⟩
theorem Step.trans {H I H1 I1 H2 I2 : Hp} {A A1 A2 : List Addr} (s : Step H I A H1 I1 A1) (t : Step H1 I1 A1 H2 I2 A2) : Step H I A H2 I2 A2 := by
  obtain ⟨B, e, hB⟩ := s.cel
  obtain ⟨C, e2, hC⟩ := t.cel
  have fr : ∀ a, H1 a = none → H a = none := fun a h => by
    cases q : H a with
    | none => rfl
    | some o => exact absurd h (s.dom a (by rw [q]; simp))
  refine ⟨fun a o h ha => t.ext a o (s.ext a o h ha) ?_, fun a h => t.dom a (s.dom a h), fun a o h => t.imm a o (s.imm a o h), fun a h => ?_, B ++ C, by rw [e2, e, List.append_assoc], fun a h => ?_⟩
  · rw [e, List.mem_append]
    rintro (z | z)
    · exact ha z
    · rw [hB a z] at h; cases h
  · rcases t.new a h with h | h
    · exact s.new a h
    · exact .inr (fr a h)
  · rcases List.mem_append.mp h with z | z
    · exact hB a z
    · exact fr a (hC a z)
theorem Step.none {H I H1 I1 : Hp} {A A1 : List Addr} (s : Step H I A H1 I1 A1) {a : Addr} (h : H1 a = none) : H a = none := by
  cases q : H a with
  | none => rfl
  | some o => exact absurd h (s.dom a (by rw [q]; simp))
theorem Step.getA {H I H1 I1 : Hp} {A A1 : List Addr} (s : Step H I A H1 I1 A1) {k : Nat} {a : Addr} (h : A[k]? = some a) : A1[k]? = some a := by
  obtain ⟨B, e, _⟩ := s.cel
  rw [e, List.getElem?_append_left (List.getElem?_eq_some_iff.mp h).1]; exact h
theorem Step.mem {H I H1 I1 : Hp} {A A1 : List Addr} (s : Step H I A H1 I1 A1) {a : Addr} (h : a ∈ A) : a ∈ A1 := by
  obtain ⟨B, e, _⟩ := s.cel
  rw [e]; exact List.mem_append_left _ h
theorem Step.notMem {H I H1 I1 : Hp} {A A1 : List Addr} (s : Step H I A H1 I1 A1) {a : Addr} {o : HO} (ha : H a = some o) (h : a ∉ A) : a ∉ A1 := by
  obtain ⟨B, e, hB⟩ := s.cel
  rw [e, List.mem_append]
  rintro (z | z)
  · exact h z
  · rw [hB a z] at ha; cases ha

section
variable {K : PySem.W.Frag} {T : Tab} {I I' : Hp} {A A' : List Addr}
theorem SqT.mono {a : Addr} {vs : List V} (hi : ∀ a o, I a = some o → I' a = some o) (h : SqT K I a vs) : SqT K I' a vs := by
  rcases h with (h | ⟨o, h⟩) | h
  · exact .inl (.inl (hi _ _ h))
  · exact .inl (.inr ⟨o, hi _ _ h⟩)
  · exact .inr h
theorem SqL.mono {a : Addr} {vs : List V} (hi : ∀ a o, I a = some o → I' a = some o) (h : SqL K I a vs) : SqL K I' a vs := by
  rcases h with (h | ⟨o, h⟩) | h
  · exact .inl (.inl (hi _ _ h))
  · exact .inl (.inr ⟨o, hi _ _ h⟩)
  · exact .inr h
theorem Rd.mono {a : Addr} {u : HO} (hi : ∀ a o, I a = some o → I' a = some o) (h : L2.Rd I a u) : L2.Rd I' a u := by
  rcases h with h | ⟨o, h⟩
  · exact .inl (hi _ _ h)
  · exact .inr ⟨o, hi _ _ h⟩
mutual
theorem Rep.mono (hi : ∀ a o, I a = some o → I' a = some o) (hA : ∀ (k : Nat) (a : Addr), A[k]? = some a → A'[k]? = some a) : ∀ (d : D) (v : V), Rep K T I A d v → Rep K T I' A' d v
  | .non, _, h => h
  | .bl _, _, h => h
  | .int _, _, h => h
  | .str _, _, h => h
  | .tup ds, v, h => by
    obtain ⟨a, vs, e, q, r⟩ := (show ∃ a vs, v = .ref a ∧ I a = some (.tup vs) ∧ Reps K T I A ds vs from h)
    exact ⟨a, vs, e, hi _ _ q, Reps.mono hi hA ds vs r⟩
  | .lst ds, v, h => by
    obtain ⟨a, vs, e, q, r⟩ := (show ∃ a vs, v = .ref a ∧ I a = some (.lst vs) ∧ Reps K T I A ds vs from h)
    exact ⟨a, vs, e, hi _ _ q, Reps.mono hi hA ds vs r⟩
  | .scr ns, v, h => by
    obtain ⟨a, e, q⟩ := (show ∃ a, v = .ref a ∧ SqL K I a (ns.map V.int) from h)
    exact ⟨a, e, SqL.mono hi q⟩
  | .dK ds, v, h => by
    obtain ⟨a, vs, e, q, r⟩ := (show ∃ a ws, v = .ref a ∧ L2.Rd I a (.dK ws) ∧ RepK K T I A ds ws from h)
    exact ⟨a, vs, e, Rd.mono hi q, RepK.mono hi hA ds vs r⟩
  | .dT ds, v, h => by
    obtain ⟨a, vs, e, q, r⟩ := (show ∃ a ws, v = .ref a ∧ L2.Rd I a (.dT ws) ∧ RepT K T I A ds ws from h)
    exact ⟨a, vs, e, Rd.mono hi q, RepT.mono hi hA ds vs r⟩
  | .obj c ds, v, h => by
    obtain ⟨a, dx, vs, e, q, l, r⟩ := (show ∃ a dx vs, v = .ref a ∧ I a = some (.ins (T.ca c) dx ((T.fl c).zip vs)) ∧ vs.length ≤ (T.fl c).length ∧ Reps K T I A ds vs from h)
    exact ⟨a, dx, vs, e, hi _ _ q, l, Reps.mono hi hA ds vs r⟩
  | .cel k, v, h => by
    obtain ⟨a, e, q⟩ := (show ∃ a, v = .ref a ∧ A[k]? = some a from h)
    exact ⟨a, e, hA _ _ q⟩
  | .fn _ _, _, h => h
theorem Reps.mono (hi : ∀ a o, I a = some o → I' a = some o) (hA : ∀ (k : Nat) (a : Addr), A[k]? = some a → A'[k]? = some a) : ∀ (ds : List D) (vs : List V), Reps K T I A ds vs → Reps K T I' A' ds vs
  | [], _, h => h
  | d :: ds, vs, h => by
    obtain ⟨v, r, e, q, q2⟩ := (show ∃ v r, vs = v :: r ∧ Rep K T I A d v ∧ Reps K T I A ds r from h)
    exact ⟨v, r, e, Rep.mono hi hA d v q, Reps.mono hi hA ds r q2⟩
theorem RepK.mono (hi : ∀ a o, I a = some o → I' a = some o) (hA : ∀ (k : Nat) (a : Addr), A[k]? = some a → A'[k]? = some a) : ∀ (ds : List (Ky × D)) (vs : List (Ky × V)), RepK K T I A ds vs → RepK K T I' A' ds vs
  | [], _, h => h
  | (k, d) :: ds, vs, h => by
    obtain ⟨v, r, e, q, q2⟩ := (show ∃ v r, vs = (k, v) :: r ∧ Rep K T I A d v ∧ RepK K T I A ds r from h)
    exact ⟨v, r, e, Rep.mono hi hA d v q, RepK.mono hi hA ds r q2⟩
theorem RepT.mono (hi : ∀ a o, I a = some o → I' a = some o) (hA : ∀ (k : Nat) (a : Addr), A[k]? = some a → A'[k]? = some a) : ∀ (ds : List (List Ky × D)) (vs : List (List Ky × V)), RepT K T I A ds vs → RepT K T I' A' ds vs
  | [], _, h => h
  | (k, d) :: ds, vs, h => by
    obtain ⟨v, r, e, q, q2⟩ := (show ∃ v r, vs = (k, v) :: r ∧ Rep K T I A d v ∧ RepT K T I A ds r from h)
    exact ⟨v, r, e, Rep.mono hi hA d v q, RepT.mono hi hA ds r q2⟩
end
theorem Reps.length {ds : List D} : ∀ {vs : List V}, Reps K T I A ds vs → vs.length = ds.length := by
  induction ds with
  | nil => intro vs h; have e : vs = [] := h; rw [e]; rfl
  | cons d ds ih =>
    intro vs h
    obtain ⟨v, r, e, q, q2⟩ := (show ∃ v r, vs = v :: r ∧ Rep K T I A d v ∧ Reps K T I A ds r from h)
    rw [e, List.length_cons, List.length_cons, ih q2]
theorem Reps.get {ds : List D} {i : Nat} {d : D} : ∀ {vs : List V}, Reps K T I A ds vs → ds[i]? = some d → ∃ v, vs[i]? = some v ∧ Rep K T I A d v := by
  induction ds generalizing i with
  | nil => intro vs h e; simp at e
  | cons x ds ih =>
    intro vs h e
    obtain ⟨v, r, rfl, q, q2⟩ := (show ∃ v r, vs = v :: r ∧ Rep K T I A x v ∧ Reps K T I A ds r from h)
    cases i with
    | zero => simp at e; subst e; exact ⟨v, rfl, q⟩
    | succ i => simp at e; obtain ⟨w, h1, h2⟩ := ih q2 e; exact ⟨w, by simpa using h1, h2⟩
theorem Reps.get' {ds : List D} {i : Nat} {v : V} {vs : List V} (h : Reps K T I A ds vs) (e : vs[i]? = some v) : ∃ d, ds[i]? = some d ∧ Rep K T I A d v := by
  have hi : i < ds.length := by rw [← Reps.length h]; exact (List.getElem?_eq_some_iff.mp e).1
  obtain ⟨w, h1, h2⟩ := h.get (List.getElem?_eq_getElem hi)
  rw [e] at h1; cases h1
  exact ⟨_, List.getElem?_eq_getElem hi, h2⟩
theorem Reps.append {ds es : List D} {vs ws : List V} (h : Reps K T I A ds vs) (h2 : Reps K T I A es ws) : Reps K T I A (ds ++ es) (vs ++ ws) := by
  induction ds generalizing vs with
  | nil => have e : vs = [] := h; subst e; exact h2
  | cons x ds ih =>
    obtain ⟨v, r, rfl, q, q2⟩ := (show ∃ v r, vs = v :: r ∧ Rep K T I A x v ∧ Reps K T I A ds r from h)
    exact ⟨v, r ++ ws, rfl, q, ih q2⟩
theorem Reps.one {d : D} {v : V} (h : Rep K T I A d v) : Reps K T I A [d] [v] := ⟨v, [], rfl, h, rfl⟩
theorem Reps.take {ds : List D} {vs : List V} (n : Nat) (h : Reps K T I A ds vs) : Reps K T I A (ds.take n) (vs.take n) := by
  induction ds generalizing vs n with
  | nil => have e : vs = [] := h; subst e; simp [Reps]
  | cons x ds ih =>
    obtain ⟨v, r, rfl, q, q2⟩ := (show ∃ v r, vs = v :: r ∧ Rep K T I A x v ∧ Reps K T I A ds r from h)
    cases n with
    | zero => exact rfl
    | succ n => exact ⟨v, _, rfl, q, ih n q2⟩
theorem Reps.drop {ds : List D} {vs : List V} (n : Nat) (h : Reps K T I A ds vs) : Reps K T I A (ds.drop n) (vs.drop n) := by
  induction ds generalizing vs n with
  | nil => have e : vs = [] := h; subst e; simp [Reps]
  | cons x ds ih =>
    cases n with
    | zero => exact h
    | succ n =>
      obtain ⟨v, r, rfl, q, q2⟩ := (show ∃ v r, vs = v :: r ∧ Rep K T I A x v ∧ Reps K T I A ds r from h)
      exact ih n q2
theorem Reps.set {ds : List D} {vs : List V} {d : D} {v : V} (n : Nat) (h : Reps K T I A ds vs) (hd : Rep K T I A d v) : Reps K T I A (ds.set n d) (vs.set n v) := by
  induction ds generalizing vs n with
  | nil => have e : vs = [] := h; subst e; exact rfl
  | cons x ds ih =>
    obtain ⟨w, r, rfl, q, q2⟩ := (show ∃ v r, vs = v :: r ∧ Rep K T I A x v ∧ Reps K T I A ds r from h)
    cases n with
    | zero => exact ⟨v, r, rfl, hd, q2⟩
    | succ n => exact ⟨w, _, rfl, q, ih n q2⟩
theorem Reps.reverse {ds : List D} {vs : List V} (h : Reps K T I A ds vs) : Reps K T I A ds.reverse vs.reverse := by
  induction ds generalizing vs with
  | nil => have e : vs = [] := h; subst e; exact rfl
  | cons x ds ih =>
    obtain ⟨v, r, rfl, q, q2⟩ := (show ∃ v r, vs = v :: r ∧ Rep K T I A x v ∧ Reps K T I A ds r from h)
    rw [List.reverse_cons, List.reverse_cons]
    exact (ih q2).append (.one q)
theorem Reps.cons {d : D} {v : V} {ds : List D} {vs : List V} (h : Rep K T I A d v) (h2 : Reps K T I A ds vs) : Reps K T I A (d :: ds) (v :: vs) := ⟨v, vs, rfl, h, h2⟩
theorem Reps.dropLast {ds : List D} {vs : List V} (h : Reps K T I A ds vs) : Reps K T I A ds.dropLast vs.dropLast := by
  rw [List.dropLast_eq_take, List.dropLast_eq_take, h.length]
  exact h.take _
end
end CC
end

section
/-! CcS2: names, tags, readings of expressions and their conversions. -/
namespace CC
open PySem PySem.Spec PyProof.Rows
open L2 (V HO Hp upd SqL SqT Vals upd_same upd_ne ne_of_none TE TT TA TS TI TG VK PE PT PW PA PS PSs PG PI Ends It)

section
variable {K : PySem.W.Frag} {T : Tab} {H I H' I' : Hp} {A A' : List Addr} {S S' : Sto}

theorem Rep.step (s : Step H I A H' I' A') {d : D} {v : V} (h : Rep K T I A d v) : Rep K T I' A' d v := Rep.mono s.imm (fun _ _ e => s.getA e) d v h
theorem Reps.step (s : Step H I A H' I' A') {d : List D} {v : List V} (h : Reps K T I A d v) : Reps K T I' A' d v := Reps.mono s.imm (fun _ _ e => s.getA e) d v h
theorem RepK.step (s : Step H I A H' I' A') {d : List (Ky × D)} {v : List (Ky × V)} (h : RepK K T I A d v) : RepK K T I' A' d v := RepK.mono s.imm (fun _ _ e => s.getA e) d v h
theorem RepT.step (s : Step H I A H' I' A') {d : List (List Ky × D)} {v : List (List Ky × V)} (h : RepT K T I A d v) : RepT K T I' A' d v := RepT.mono s.imm (fun _ _ e => s.getA e) d v h
theorem St0.nA (z : St0 K T H S I A) {a : Addr} {o : HO} (e : I a = some o) : a ∉ A := fun hm => by
  obtain ⟨k, hk, e2⟩ := List.mem_iff_getElem.mp hm
  have hk2 : k < S.length := by rw [← z.len]; exact hk
  have q := (z.cel k a _ (by rw [List.getElem?_eq_getElem hk, e2]) (List.getElem?_eq_getElem hk2)).1
  rw [q] at e; cases e
theorem Rd.up (z : St0 K T H S I A) {a : Addr} {u : HO} (e : L2.Rd I a u) : L2.Rd H a u ∧ a ∉ A := by
  rcases e with e | ⟨o, e⟩
  · exact ⟨.inl (z.sub _ _ e), z.nA e⟩
  · exact ⟨.inr ⟨o, z.sub _ _ e⟩, z.nA e⟩
/-- a shared value is its content -/
theorem Rep.content (z : St0 K T H S I A) : ∀ {d : D} {v : V}, Rep K T I A d v → RepC K T H I A d v
  | .non, _, h => h
  | .bl _, _, h => h
  | .int _, _, h => h
  | .str _, _, h => h
  | .cel _, _, h => h
  | .fn _ _, _, h => h
  | .tup _, _, h => h
  | .lst ds, v, h => by
    obtain ⟨a, vs, e, q, r⟩ := (show ∃ a vs, v = .ref a ∧ I a = some (.lst vs) ∧ Reps K T I A ds vs from h)
    exact ⟨a, vs, e, z.sub _ _ q, r, z.nA q⟩
  | .scr _, _, h => h
  | .dK ds, v, h => by
    obtain ⟨a, vs, e, q, r⟩ := (show ∃ a ws, v = .ref a ∧ L2.Rd I a (.dK ws) ∧ RepK K T I A ds ws from h)
    exact ⟨a, vs, e, (Rd.up z q).1, r, (Rd.up z q).2⟩
  | .dT ds, v, h => by
    obtain ⟨a, vs, e, q, r⟩ := (show ∃ a ws, v = .ref a ∧ L2.Rd I a (.dT ws) ∧ RepT K T I A ds ws from h)
    exact ⟨a, vs, e, (Rd.up z q).1, r, (Rd.up z q).2⟩
  | .obj c ds, v, h => by
    obtain ⟨a, dx, vs, e, q, l, r⟩ := (show ∃ a dx vs, v = .ref a ∧ I a = some (.ins (T.ca c) dx ((T.fl c).zip vs)) ∧ vs.length ≤ (T.fl c).length ∧ Reps K T I A ds vs from h)
    exact ⟨a, dx, vs, e, z.sub _ _ q, l, r, z.nA q⟩
theorem Rd.step (s : Step H I A H' I' A') {a : Addr} {u : HO} (e : L2.Rd H a u) (n : a ∉ A) : L2.Rd H' a u ∧ a ∉ A' := by
  rcases e with e | ⟨o, e⟩
  · exact ⟨.inl (s.ext _ _ e n), s.notMem e n⟩
  · exact ⟨.inr ⟨o, s.ext _ _ e n⟩, s.notMem e n⟩
theorem RepC.step (s : Step H I A H' I' A') : ∀ {d : D} {v : V}, RepC K T H I A d v → RepC K T H' I' A' d v
  | .non, _, h => h
  | .bl _, _, h => h
  | .int _, _, h => h
  | .str _, _, h => h
  | .cel _, _, h => Rep.step s h
  | .fn _ _, _, h => h
  | .tup _, _, h => Rep.step s h
  | .lst ds, v, h => by
    obtain ⟨a, vs, e, q, r, n⟩ := (show ∃ a vs, v = .ref a ∧ H a = some (.lst vs) ∧ Reps K T I A ds vs ∧ a ∉ A from h)
    exact ⟨a, vs, e, s.ext _ _ q n, r.step s, s.notMem q n⟩
  | .scr _, _, h => Rep.step s h
  | .dK ds, v, h => by
    obtain ⟨a, vs, e, q, r, n⟩ := (show ∃ a ws, v = .ref a ∧ L2.Rd H a (.dK ws) ∧ RepK K T I A ds ws ∧ a ∉ A from h)
    exact ⟨a, vs, e, (Rd.step s q n).1, r.step s, (Rd.step s q n).2⟩
  | .dT ds, v, h => by
    obtain ⟨a, vs, e, q, r, n⟩ := (show ∃ a ws, v = .ref a ∧ L2.Rd H a (.dT ws) ∧ RepT K T I A ds ws ∧ a ∉ A from h)
    exact ⟨a, vs, e, (Rd.step s q n).1, r.step s, (Rd.step s q n).2⟩
  | .obj c ds, v, h => by
    obtain ⟨a, dx, vs, e, q, l, r, n⟩ := (show ∃ a dx vs, v = .ref a ∧ H a = some (.ins (T.ca c) dx ((T.fl c).zip vs)) ∧ vs.length ≤ (T.fl c).length ∧ Reps K T I A ds vs ∧ a ∉ A from h)
    exact ⟨a, dx, vs, e, s.ext _ _ q n, l, r.step s, s.notMem q n⟩
theorem OwnC.step (s : Step H I A H' I' A') {a : Addr} (n : a ∉ A) : ∀ {d : D}, OwnC K T H I A d a → OwnC K T H' I' A' d a
  | .lst ds, h => by
    obtain ⟨vs, e, r⟩ := (show ∃ vs, H a = some (.lst vs) ∧ Reps K T I A ds vs from h)
    exact ⟨vs, s.ext _ _ e n, r.step s⟩
  | .dK ds, h => by
    obtain ⟨vs, e, r⟩ := (show ∃ vs, H a = some (.dK vs) ∧ RepK K T I A ds vs from h)
    exact ⟨vs, s.ext _ _ e n, r.step s⟩
  | .dT ds, h => by
    obtain ⟨vs, e, r⟩ := (show ∃ vs, H a = some (.dT vs) ∧ RepT K T I A ds vs from h)
    exact ⟨vs, s.ext _ _ e n, r.step s⟩
  | .obj c ds, h => by
    obtain ⟨dx, vs, e, l, r⟩ := (show ∃ dx vs, H a = some (.ins (T.ca c) dx ((T.fl c).zip vs)) ∧ vs.length ≤ (T.fl c).length ∧ Reps K T I A ds vs from h)
    exact ⟨dx, vs, s.ext _ _ e n, l, r.step s⟩
  | .non, h => h
  | .bl _, h => h
  | .int _, h => h
  | .str _, h => h
  | .cel _, h => h
  | .fn _ _, h => h
  | .scr _, h => h
  | .tup _, h => h
theorem OwnC.there {a : Addr} : ∀ {d : D}, OwnC K T H I A d a → ∃ o, H a = some o
  | .lst ds, h => let ⟨vs, e, _⟩ := (show ∃ vs, H a = some (.lst vs) ∧ Reps K T I A ds vs from h); ⟨_, e⟩
  | .dK ds, h => let ⟨vs, e, _⟩ := (show ∃ vs, H a = some (.dK vs) ∧ RepK K T I A ds vs from h); ⟨_, e⟩
  | .dT ds, h => let ⟨vs, e, _⟩ := (show ∃ vs, H a = some (.dT vs) ∧ RepT K T I A ds vs from h); ⟨_, e⟩
  | .obj c ds, h => let ⟨dx, vs, e, _⟩ := (show ∃ dx vs, H a = some (.ins (T.ca c) dx ((T.fl c).zip vs)) ∧ vs.length ≤ (T.fl c).length ∧ Reps K T I A ds vs from h); ⟨_, e⟩
  | .non, h => h.elim
  | .bl _, h => h.elim
  | .int _, h => h.elim
  | .str _, h => h.elim
  | .cel _, h => h.elim
  | .fn _ _, h => h.elim
  | .scr _, h => h.elim
  | .tup _, h => h.elim
theorem OwnC.content {a : Addr} (n : a ∉ A) : ∀ {d : D}, OwnC K T H I A d a → RepC K T H I A d (.ref a)
  | .lst ds, h => let ⟨vs, e, r⟩ := (show ∃ vs, H a = some (.lst vs) ∧ Reps K T I A ds vs from h); ⟨a, vs, rfl, e, r, n⟩
  | .dK ds, h => let ⟨vs, e, r⟩ := (show ∃ vs, H a = some (.dK vs) ∧ RepK K T I A ds vs from h); ⟨a, vs, rfl, .inl e, r, n⟩
  | .dT ds, h => let ⟨vs, e, r⟩ := (show ∃ vs, H a = some (.dT vs) ∧ RepT K T I A ds vs from h); ⟨a, vs, rfl, .inl e, r, n⟩
  | .obj c ds, h => let ⟨dx, vs, e, l, r⟩ := (show ∃ dx vs, H a = some (.ins (T.ca c) dx ((T.fl c).zip vs)) ∧ vs.length ≤ (T.fl c).length ∧ Reps K T I A ds vs from h); ⟨a, dx, vs, rfl, e, l, r, n⟩
  | .non, h => h.elim
  | .bl _, h => h.elim
  | .int _, h => h.elim
  | .str _, h => h.elim
  | .cel _, h => h.elim
  | .fn _ _, h => h.elim
  | .scr _, h => h.elim
  | .tup _, h => h.elim
/-- an own thing is shared: it is immutable from now on -/
theorem OwnC.freeze {a : Addr} (z : St0 K T H S I A) (hI : I a = none) (n : a ∉ A) {d : D} (h : OwnC K T H I A d a) :
    ∃ I2, St0 K T H S I2 A ∧ (∀ b o, I b = some o → I2 b = some o) ∧ (∀ b, I2 b ≠ none → I b ≠ none ∨ b = a) ∧ Rep K T I2 A d (.ref a) := by
  obtain ⟨o, e⟩ := h.there
  have im : ∀ b u, I b = some u → upd I a o b = some u := fun b u q => by
    have hb : b ≠ a := fun z => by rw [z, hI] at q; cases q
    rw [upd_ne hb]; exact q
  have rm : ∀ {ds : List D} {vs : List V}, Reps K T I A ds vs → Reps K T (upd I a o) A ds vs := fun {ds vs} r => Reps.mono im (fun _ _ e => e) ds vs r
  have z2 : St0 K T H S (upd I a o) A := by
    refine ⟨fun b u q => ?_, z.len, z.nd, fun k b d h1 h2 => ?_⟩
    · by_cases hb : b = a
      · subst hb; rw [upd_same] at q; cases q; exact e
      · rw [upd_ne hb] at q; exact z.sub b u q
    · obtain ⟨q1, ds, vs, q2, q3, q4⟩ := z.cel k b d h1 h2
      have hb : b ≠ a := fun z => n (by rw [← z]; exact List.mem_of_getElem? h1)
      exact ⟨by rw [upd_ne hb]; exact q1, ds, vs, q2, q3, rm q4⟩
  refine ⟨upd I a o, z2, im, fun b q => ?_, ?_⟩
  · by_cases hb : b = a
    · exact .inr hb
    · rw [upd_ne hb] at q; exact .inl q
  · cases d with
    | lst ds =>
      obtain ⟨vs, e2, r⟩ := (show ∃ vs, H a = some (.lst vs) ∧ Reps K T I A ds vs from h)
      rw [e] at e2; cases e2
      exact ⟨a, vs, rfl, upd_same, rm r⟩
    | dK ds =>
      obtain ⟨vs, e2, r⟩ := (show ∃ vs, H a = some (.dK vs) ∧ RepK K T I A ds vs from h)
      rw [e] at e2; cases e2
      exact ⟨a, vs, rfl, .inl upd_same, RepK.mono im (fun _ _ e => e) ds vs r⟩
    | dT ds =>
      obtain ⟨vs, e2, r⟩ := (show ∃ vs, H a = some (.dT vs) ∧ RepT K T I A ds vs from h)
      rw [e] at e2; cases e2
      exact ⟨a, vs, rfl, .inl upd_same, RepT.mono im (fun _ _ e => e) ds vs r⟩
    | obj c ds =>
      obtain ⟨dx, vs, e2, l, r⟩ := (show ∃ dx vs, H a = some (.ins (T.ca c) dx ((T.fl c).zip vs)) ∧ vs.length ≤ (T.fl c).length ∧ Reps K T I A ds vs from h)
      rw [e] at e2; cases e2
      exact ⟨a, dx, vs, rfl, upd_same, l, rm r⟩
    | _ => exact h.elim
end

/-! ### names -/
/-- which addresses this call may write: Fr -/
structure Slots (K : PySem.W.Frag) (T : Tab) (Fr : Nat → Addr → Prop) (H I : Hp) (A : List Addr) (W : List Nat) (ρ : Env) (σ : L2.St) : Prop where
  len : ρ.length = σ.length
  sh : ∀ (i : Nat) (d : D), i ∉ W → ρ[i]? = some (.sh d) → ∃ v, σ[i]? = some (some v) ∧ Rep K T I A d v
  ow : ∀ (i : Nat) (d : D), i ∉ W → ρ[i]? = some (.ow d) → ∃ a, σ[i]? = some (some (.ref a)) ∧ I a = none ∧ a ∉ A ∧ Fr i a ∧ OwnC K T H I A d a
  apart : ∀ (i j : Nat) (d e : D) (a : Addr), i ∉ W → j ∉ W → i ≠ j → ρ[i]? = some (.ow d) → ρ[j]? = some (.ow e) → σ[i]? = some (some (.ref a)) → σ[j]? ≠ some (some (.ref a))
section
variable {K : PySem.W.Frag} {T : Tab} {Fr : Nat → Addr → Prop} {H I H' I' : Hp} {A A' : List Addr} {S S' : Sto} {W : List Nat} {ρ : Env} {σ : L2.St}
theorem Slots.step (h : Slots K T Fr H I A W ρ σ) (s : Step H I A H' I' A') : Slots K T Fr H' I' A' W ρ σ := by
  refine ⟨h.len, fun i d hi e => ?_, fun i d hi e => ?_, h.apart⟩
  · obtain ⟨v, e1, r⟩ := h.sh i d hi e
    exact ⟨v, e1, r.step s⟩
  · obtain ⟨a, e1, hI, hA, hF, o⟩ := h.ow i d hi e
    obtain ⟨u, hu⟩ := o.there
    refine ⟨a, e1, ?_, s.notMem hu hA, hF, o.step s hA⟩
    cases q : I' a with
    | none => rfl
    | some w =>
      rcases s.new a (by rw [q]; simp) with z | z
      · exact absurd hI z
      · rw [hu] at z; cases z
theorem Slots.weak {W' : List Nat} (h : Slots K T Fr H I A W ρ σ) (hw : ∀ i ∈ W, i ∈ W') : Slots K T Fr H I A W' ρ σ :=
  ⟨h.len, fun i d hi e => h.sh i d (fun z => hi (hw i z)) e, fun i d hi e => h.ow i d (fun z => hi (hw i z)) e, fun i j d e a hi hj => h.apart i j d e a (fun z => hi (hw i z)) (fun z => hj (hw j z))⟩
/-- a name is given a shared value -/
theorem Slots.set (h : Slots K T Fr H I A W ρ σ) {i : Nat} {d : D} {v : V} (r : Rep K T I A d v) : Slots K T Fr H I A (W.filter fun j => decide (j ≠ i)) (ρ.set i (.sh d)) (σ.set i (some v)) := by
  have nW : ∀ j, j ∉ W.filter (fun j => decide (j ≠ i)) → j ≠ i → j ∉ W := fun j hj hne hm => hj (List.mem_filter.mpr ⟨hm, decide_eq_true hne⟩)
  refine ⟨by rw [List.length_set, List.length_set, h.len], fun j e hj q => ?_, fun j e hj q => ?_, fun j k e f a hj hk hne q1 q2 q3 => ?_⟩
  · by_cases hji : j = i
    · subst hji
      have hl : j < ρ.length := by
        have := (List.getElem?_eq_some_iff.mp q).1
        rw [List.length_set] at this; exact this
      rw [List.getElem?_set_self hl] at q; cases q
      exact ⟨v, List.getElem?_set_self (by rw [← h.len]; exact hl), r⟩
    · rw [List.getElem?_set_ne (Ne.symm hji)] at q
      obtain ⟨w, e1, r1⟩ := h.sh j e (nW j hj hji) q
      exact ⟨w, by rw [List.getElem?_set_ne (Ne.symm hji)]; exact e1, r1⟩
  · by_cases hji : j = i
    · subst hji
      have hl : j < ρ.length := by
        have := (List.getElem?_eq_some_iff.mp q).1
        rw [List.length_set] at this; exact this
      rw [List.getElem?_set_self hl] at q; cases q
    · rw [List.getElem?_set_ne (Ne.symm hji)] at q
      obtain ⟨w, e1, r1⟩ := h.ow j e (nW j hj hji) q
      exact ⟨w, by rw [List.getElem?_set_ne (Ne.symm hji)]; exact e1, r1⟩
  · by_cases hji : j = i
    · subst hji
      have hl : j < ρ.length := by
        have := (List.getElem?_eq_some_iff.mp q1).1
        rw [List.length_set] at this; exact this
      rw [List.getElem?_set_self hl] at q1; cases q1
    · by_cases hki : k = i
      · subst hki
        have hl : k < ρ.length := by
          have := (List.getElem?_eq_some_iff.mp q2).1
          rw [List.length_set] at this; exact this
        rw [List.getElem?_set_self hl] at q2; cases q2
      · rw [List.getElem?_set_ne (Ne.symm hji)] at q1 q3
        rw [List.getElem?_set_ne (Ne.symm hki)] at q2 ⊢
        exact h.apart j k e f a (nW j hj hji) (nW k hk hki) hne q1 q2 q3
/-- .. an own one, of nobody else -/
theorem Slots.setO (h : Slots K T Fr H I A [] ρ σ) {i : Nat} {d : D} {a : Addr} (hI : I a = none) (hA : a ∉ A) (hF : Fr i a) (o : OwnC K T H I A d a)
    (ap : ∀ j e, j ≠ i → ρ[j]? = some (.ow e) → σ[j]? ≠ some (some (.ref a))) : Slots K T Fr H I A [] (ρ.set i (.ow d)) (σ.set i (some (.ref a))) := by
  refine ⟨by rw [List.length_set, List.length_set, h.len], fun j e hj q => ?_, fun j e hj q => ?_, fun j k e f b hj hk hne q1 q2 q3 => ?_⟩
  · by_cases hji : j = i
    · subst hji
      have hl : j < ρ.length := by
        have := (List.getElem?_eq_some_iff.mp q).1
        rw [List.length_set] at this; exact this
      rw [List.getElem?_set_self hl] at q; cases q
    · rw [List.getElem?_set_ne (Ne.symm hji)] at q
      obtain ⟨w, e1, r1⟩ := h.sh j e (by simp) q
      exact ⟨w, by rw [List.getElem?_set_ne (Ne.symm hji)]; exact e1, r1⟩
  · by_cases hji : j = i
    · subst hji
      have hl : j < ρ.length := by
        have := (List.getElem?_eq_some_iff.mp q).1
        rw [List.length_set] at this; exact this
      rw [List.getElem?_set_self hl] at q; cases q
      exact ⟨a, List.getElem?_set_self (by rw [← h.len]; exact hl), hI, hA, hF, o⟩
    · rw [List.getElem?_set_ne (Ne.symm hji)] at q
      obtain ⟨w, e1, r1⟩ := h.ow j e (by simp) q
      exact ⟨w, by rw [List.getElem?_set_ne (Ne.symm hji)]; exact e1, r1⟩
  · by_cases hji : j = i
    · subst hji
      have hki : k ≠ j := Ne.symm hne
      have hl : j < σ.length := by
        have := (List.getElem?_eq_some_iff.mp q3).1
        rw [List.length_set] at this; exact this
      rw [List.getElem?_set_self hl] at q3
      cases q3
      rw [List.getElem?_set_ne (Ne.symm hki)] at q2 ⊢
      exact ap k f hki q2
    · rw [List.getElem?_set_ne (Ne.symm hji)] at q1 q3
      by_cases hki : k = i
      · subst hki
        have hl : k < ρ.length := by
          have := (List.getElem?_eq_some_iff.mp q2).1
          rw [List.length_set] at this; exact this
        rw [List.getElem?_set_self (by rw [← h.len]; exact hl)]
        intro z
        have z' : a = b := by injection z with z; injection z with z; injection z
        subst z'
        exact ap j e hji q1 q3
      · rw [List.getElem?_set_ne (Ne.symm hki)] at q2 ⊢
        exact h.apart j k e f b (by simp) (by simp) hne q1 q2 q3
end
end CC
end

section
/-! CcS3: the readings of expressions, their conversions, their composition. -/
namespace CC
open PySem PySem.Spec PyProof.Rows
open L2 (V HO Hp upd SqL SqT Vals upd_same upd_ne ne_of_none TE TT TA TS TI TG VK PE PT PW PA PS PSs PG PI Ends It)

def TagOk (K : PySem.W.Frag) (T : Tab) (N : Addr → Prop) (H I : Hp) (A : List Addr) (r : Rr) (v : V) : Prop :=
  match r.1 with
  | .sh => Rep K T I A r.2 v
  | .ow => ∃ a, v = .ref a ∧ I a = none ∧ a ∉ A ∧ N a ∧ OwnC K T H I A r.2 a
  | .pk => RepC K T H I A r.2 v

section
variable {K : PySem.W.Frag} {T : Tab} {H I H' I' : Hp} {A A' : List Addr} {S S' : Sto}
theorem St0.free (z : St0 K T H S I A) {p : Addr} (hp : H p = none) : I p = none ∧ p ∉ A := by
  refine ⟨?_, fun hm => ?_⟩
  · cases q : I p with
    | none => rfl
    | some o => rw [z.sub p o q] at hp; cases hp
  · obtain ⟨k, hk, e2⟩ := List.mem_iff_getElem.mp hm
    have hk2 : k < S.length := by rw [← z.len]; exact hk
    obtain ⟨_, ds, vs, _, q, _⟩ := z.cel k p _ (by rw [List.getElem?_eq_getElem hk, e2]) (List.getElem?_eq_getElem hk2)
    rw [q] at hp; cases hp
/-- a new thing, nobody's -/
theorem St0.newO (z : St0 K T H S I A) {p : Addr} (hp : H p = none) (o : HO) : Step H I A (upd H p o) I A ∧ St0 K T (upd H p o) S I A := by
  obtain ⟨hI, hA⟩ := z.free hp
  have ex : ∀ a u, H a = some u → upd H p o a = some u := fun a u e => by rw [upd_ne (ne_of_none e hp)]; exact e
  refine ⟨⟨fun a u e _ => ex a u e, fun a e => ?_, fun a u e => e, fun a e => .inl e, [], by simp, fun a e => absurd e (by simp)⟩, ⟨fun a u e => ex a u (z.sub a u e), z.len, z.nd, fun k a d h1 h2 => ?_⟩⟩
  · cases q : H a with
    | none => exact absurd q e
    | some u => rw [ex a u q]; simp
  · obtain ⟨q1, ds, vs, q2, q3, q4⟩ := z.cel k a d h1 h2
    exact ⟨q1, ds, vs, q2, ex _ _ q3, q4⟩
/-- a new thing that never changes -/
theorem St0.newI (z : St0 K T H S I A) {p : Addr} (hp : H p = none) (o : HO) : Step H I A (upd H p o) (upd I p o) A ∧ St0 K T (upd H p o) S (upd I p o) A := by
  obtain ⟨hI, hA⟩ := z.free hp
  obtain ⟨s, z2⟩ := z.newO hp o
  have im : ∀ b u, I b = some u → upd I p o b = some u := fun b u q => by rw [upd_ne (ne_of_none q hI)]; exact q
  refine ⟨⟨s.ext, s.dom, im, fun a e => ?_, s.cel⟩, ⟨fun a u e => ?_, z.len, z.nd, fun k a d h1 h2 => ?_⟩⟩
  · by_cases ha : a = p
    · exact .inr (by rw [ha]; exact hp)
    · rw [upd_ne ha] at e; exact .inl e
  · by_cases ha : a = p
    · subst ha; rw [upd_same] at e ⊢; exact e
    · rw [upd_ne ha] at e; exact z2.sub a u e
  · obtain ⟨q1, ds, vs, q2, q3, q4⟩ := z2.cel k a d h1 h2
    have ha : a ≠ p := fun e => hA (by rw [← e]; exact List.mem_of_getElem? h1)
    exact ⟨by rw [upd_ne ha]; exact q1, ds, vs, q2, q3, Reps.mono im (fun _ _ e => e) ds vs q4⟩
/-- a shared view of what was made -/
theorem TagOk.share {N : Addr → Prop} {H0 I0 : Hp} {A0 : List Addr} (s : Step H0 I0 A0 H I A) (z : St0 K T H S I A) {r : Rr} {v : V} (hN : ∀ a, N a → H0 a = none) (np : r.1 ≠ .pk) (h : TagOk K T N H I A r v) :
    ∃ I2, Step H0 I0 A0 H I2 A ∧ St0 K T H S I2 A ∧ Rep K T I2 A r.2 v := by
  obtain ⟨t, d⟩ := r
  cases t with
  | sh => exact ⟨I, s, z, h⟩
  | pk => exact absurd rfl np
  | ow =>
    obtain ⟨a, rfl, hI, hA, hn, o⟩ := h
    obtain ⟨I2, z2, im, nw, r2⟩ := o.freeze z hI hA
    refine ⟨I2, ⟨s.ext, s.dom, fun b u e => im b u (s.imm b u e), fun b e => ?_, s.cel⟩, z2, r2⟩
    rcases nw b e with q | q
    · exact s.new b q
    · exact .inr (by rw [q]; exact hN a hn)
theorem TagOk.content {N : Addr → Prop} (z : St0 K T H S I A) {r : Rr} {v : V} (h : TagOk K T N H I A r v) : RepC K T H I A r.2 v := by
  obtain ⟨t, d⟩ := r
  cases t with
  | sh => exact Rep.content z h
  | pk => exact h
  | ow =>
    obtain ⟨a, rfl, hI, hA, hn, o⟩ := h
    exact o.content hA
theorem TagOk.wk {N N' : Addr → Prop} (hN : ∀ a, N a → N' a) {r : Rr} {v : V} (h : TagOk K T N H I A r v) : TagOk K T N' H I A r v := by
  obtain ⟨t, d⟩ := r
  cases t with
  | sh => exact h
  | pk => exact h
  | ow =>
    obtain ⟨a, e, hI, hA, hn, o⟩ := h
    exact ⟨a, e, hI, hA, hN a hn, o⟩
end

section
variable (K : PySem.W.Frag) (T : Tab) (Fr : Nat → Addr → Prop)
/-- an expression -/
def RdE (f : Env → Sto → Res Rr) : TE := fun σ H Q => ∃ ρ S I A, St0 K T H S I A ∧ Slots K T Fr H I A [] ρ σ ∧ ∃ r S', f ρ S = .ok r S' ∧
  ∀ v H' I' A', Step H I A H' I' A' → St0 K T H' S' I' A' → TagOk K T (fun a => H a = none) H' I' A' r v → Q v H'
/-- .. shared -/
def RdV (f : Env → Sto → Res Rr) : TE := fun σ H Q => ∃ ρ S I A, St0 K T H S I A ∧ Slots K T Fr H I A [] ρ σ ∧ ∃ r S', f ρ S = .ok r S' ∧ r.1 ≠ .pk ∧
  ∀ v H' I' A', Step H I A H' I' A' → St0 K T H' S' I' A' → Rep K T I' A' r.2 v → Q v H'
/-- .. looked at -/
def RdP (f : Env → Sto → Res Rr) : TE := fun σ H Q => ∃ ρ S I A, St0 K T H S I A ∧ Slots K T Fr H I A [] ρ σ ∧ ∃ r S', f ρ S = .ok r S' ∧
  ∀ v H' I' A', Step H I A H' I' A' → St0 K T H' S' I' A' → RepC K T H' I' A' r.2 v → Q v H'
/-- a test -/
def RdT (f : Env → Sto → Res Bool) : TT := fun σ H Q => ∃ ρ S I A, St0 K T H S I A ∧ Slots K T Fr H I A [] ρ σ ∧ ∃ k S', f ρ S = .ok k S' ∧
  ∀ H' I' A', Step H I A H' I' A' → St0 K T H' S' I' A' → Q k H'
/-- arguments that are kept -/
def RdA (f : Env → Sto → Res (List D)) : TA := fun σ H Q => ∃ ρ S I A, St0 K T H S I A ∧ Slots K T Fr H I A [] ρ σ ∧ ∃ r S', f ρ S = .ok r S' ∧
  ∀ v H' I' A', Step H I A H' I' A' → St0 K T H' S' I' A' → Reps K T I' A' r v → Q v H'
def RepCs (K : PySem.W.Frag) (T : Tab) (H I : Hp) (A : List Addr) : List D → List V → Prop
  | [], vs => vs = []
  | d :: ds, vs => ∃ v r, vs = v :: r ∧ RepC K T H I A d v ∧ RepCs K T H I A ds r
/-- arguments that are looked at -/
def RdAP (f : Env → Sto → Res (List D)) : TA := fun σ H Q => ∃ ρ S I A, St0 K T H S I A ∧ Slots K T Fr H I A [] ρ σ ∧ ∃ r S', f ρ S = .ok r S' ∧
  ∀ v H' I' A', Step H I A H' I' A' → St0 K T H' S' I' A' → RepCs K T H' I' A' r v → Q v H'
end
theorem PE.weak {X : L2.Cx} {e : Expr} {t t' : TE} (h : PE X e t) (hw : ∀ σ H Q, t' σ H Q → t σ H Q) : PE X e t' := ⟨fun pins s σ H Q I q => h.run pins s σ H Q I (hw σ H Q q)⟩
theorem PT.weak {X : L2.Cx} {e : Expr} {t t' : TT} (h : PT X e t) (hw : ∀ σ H Q, t' σ H Q → t σ H Q) : PT X e t' := ⟨fun pins s σ H Q I q => h.run pins s σ H Q I (hw σ H Q q)⟩
theorem PW.weak {X : L2.Cx} {e : Expr} {t t' : TT} (h : PW X e t) (hw : ∀ σ H Q, t' σ H Q → t σ H Q) : PW X e t' := ⟨fun wh pins s σ H Q I q => h.run wh pins s σ H Q I (hw σ H Q q)⟩
theorem PA.weak {X : L2.Cx} {e : List Expr} {t t' : TA} (h : PA X e t) (hw : ∀ σ H Q, t' σ H Q → t σ H Q) : PA X e t' := ⟨fun pos pins s σ H Q I q => h.run pos pins s σ H Q I (hw σ H Q q)⟩
theorem PS.weak {X : L2.Cx} {e : Stmt} {t t' : TS} (h : PS X e t) (hw : ∀ D σ H, t' D σ H → t D σ H) : PS X e t' := ⟨fun pins s σ H D I q => h.run pins s σ H D I (hw D σ H q)⟩
theorem PSs.weak {X : L2.Cx} {e : List Stmt} {t t' : TS} (h : PSs X e t) (hw : ∀ D σ H, t' D σ H → t D σ H) : PSs X e t' := ⟨fun pins s σ H D I q => h.run pins s σ H D I (hw D σ H q)⟩
theorem PI.weak {X : L2.Cx} {tg e : Expr} {t t' : TI} (h : PI X tg e t) (hw : ∀ σ H Q, t' σ H Q → t σ H Q) : PI X tg e t' := ⟨fun pins s σ H Q I q => h.run pins s σ H Q I (hw σ H Q q)⟩
theorem PG.weak {X : L2.Cx} {e : Expr} {t t' : TG} (h : PG X e t) (hw : ∀ v σ H Q, t' v σ H Q → t v σ H Q) : PG X e t' := ⟨fun pins s σ H v u Q I r q => h.run pins s σ H v u Q I r (hw v σ H Q q)⟩

section
variable {K : PySem.W.Frag} {T : Tab} {Fr : Nat → Addr → Prop} {X : L2.Cx} {e : Expr} {f fa fb : Env → Sto → Res Rr} {σ : L2.St} {H : Hp} {Q : VK}
theorem RdV.toE (h : RdV K T Fr f σ H Q) : RdE K T Fr f σ H Q := by
  obtain ⟨ρ, S, I, A, z, sl, r, S', e, np, k⟩ := h
  refine ⟨ρ, S, I, A, z, sl, r, S', e, fun v H' I' A' s z' t => ?_⟩
  obtain ⟨I2, s2, z2, rp⟩ := t.share s z' (fun a h => h) np
  exact k v H' I2 A' s2 z2 rp
theorem RdP.toE (h : RdP K T Fr f σ H Q) : RdE K T Fr f σ H Q := by
  obtain ⟨ρ, S, I, A, z, sl, r, S', e, k⟩ := h
  exact ⟨ρ, S, I, A, z, sl, r, S', e, fun v H' I' A' s z' t => k v H' I' A' s z' (t.content z')⟩
theorem peV (h : PE X e (RdE K T Fr f)) : PE X e (RdV K T Fr f) := PE.weak h fun _ _ _ => RdV.toE
theorem peP (h : PE X e (RdE K T Fr f)) : PE X e (RdP K T Fr f) := PE.weak h fun _ _ _ => RdP.toE

theorem Res.bind_eq_ok {α β : Type} {r : Res α} {f : α → Sto → Res β} {b : β} {S' : Sto} (h : r.bind f = .ok b S') : ∃ a S1, r = .ok a S1 ∧ f a S1 = .ok b S' := by
  cases r with
  | ok a S1 => exact ⟨a, S1, rfl, h⟩
  | exc x S1 => cases h
  | bad => cases h

/-- what an operation of one value is asked -/
def Good1 (K : PySem.W.Frag) (T : Tab) (r : V → Hp → VK → Prop) (g : D → Sto → Res Rr) : Prop :=
  ∀ H S I A x dx Q p S', St0 K T H S I A → RepC K T H I A dx x → g dx S = .ok p S' →
    (∀ v H' I' A', Step H I A H' I' A' → St0 K T H' S' I' A' → TagOk K T (fun a => H a = none) H' I' A' p v → Q v H') → r x H Q
def Good2 (K : PySem.W.Frag) (T : Tab) (r : V → V → Hp → VK → Prop) (g : D → D → Sto → Res Rr) : Prop :=
  ∀ H S I A x y dx dy Q p S', St0 K T H S I A → RepC K T H I A dx x → RepC K T H I A dy y → g dx dy S = .ok p S' →
    (∀ v H' I' A', Step H I A H' I' A' → St0 K T H' S' I' A' → TagOk K T (fun a => H a = none) H' I' A' p v → Q v H') → r x y H Q
def GoodN (K : PySem.W.Frag) (T : Tab) (r : List V → Hp → VK → Prop) (g : List D → Sto → Res Rr) : Prop :=
  ∀ H S I A x dx Q p S', St0 K T H S I A → RepCs K T H I A dx x → g dx S = .ok p S' →
    (∀ v H' I' A', Step H I A H' I' A' → St0 K T H' S' I' A' → TagOk K T (fun a => H a = none) H' I' A' p v → Q v H') → r x H Q
/-- the end of a chain: the steps put together -/
theorem chainE {I H1 I1 : Hp} {A A1 : List Addr} {S' : Sto} {r : Rr} (s : Step H I A H1 I1 A1)
    (k : ∀ v H' I' A', Step H I A H' I' A' → St0 K T H' S' I' A' → TagOk K T (fun a => H a = none) H' I' A' r v → Q v H') :
    ∀ v H' I' A', Step H1 I1 A1 H' I' A' → St0 K T H' S' I' A' → TagOk K T (fun a => H1 a = none) H' I' A' r v → Q v H' :=
  fun v H' I' A' s2 z t => k v H' I' A' (s.trans s2) z (t.wk fun a h => s.none h)
theorem comb1 {r : V → Hp → VK → Prop} {g : D → Sto → Res Rr} (hg : Good1 K T r g)
    (h : RdE K T Fr (fun ρ S => (fa ρ S).bind fun x S => g x.2 S) σ H Q) : RdP K T Fr fa σ H (fun x H1 => r x H1 Q) := by
  obtain ⟨ρ, S, I, A, z, sl, p, S', e, k⟩ := h
  obtain ⟨x, S1, e1, e⟩ := Res.bind_eq_ok e
  exact ⟨ρ, S, I, A, z, sl, x, S1, e1, fun v H1 I1 A1 s1 z1 r1 => hg H1 S1 I1 A1 v x.2 Q p S' z1 r1 e (chainE s1 k)⟩
theorem comb2 {r : V → V → Hp → VK → Prop} {g : D → D → Sto → Res Rr} (hg : Good2 K T r g)
    (h : RdE K T Fr (fun ρ S => (fa ρ S).bind fun x S => (fb ρ S).bind fun y S => g x.2 y.2 S) σ H Q) : L2.tOp r (RdP K T Fr fa) (RdP K T Fr fb) σ H Q := by
  obtain ⟨ρ, S, I, A, z, sl, p, S', e, k⟩ := h
  obtain ⟨x, S1, e1, e⟩ := Res.bind_eq_ok e
  obtain ⟨y, S2, e2, e⟩ := Res.bind_eq_ok e
  exact ⟨ρ, S, I, A, z, sl, x, S1, e1, fun v H1 I1 A1 s1 z1 r1 => ⟨ρ, S1, I1, A1, z1, sl.step s1, y, S2, e2, fun w H2 I2 A2 s2 z2 r2 =>
    hg H2 S2 I2 A2 v w x.2 y.2 Q p S' z2 (r1.step s2) r2 e (chainE (s1.trans s2) k)⟩⟩
theorem combN {f : Env → Sto → Res (List D)} {r : List V → Hp → VK → Prop} {g : List D → Sto → Res Rr} (hg : GoodN K T r g)
    (h : RdE K T Fr (fun ρ S => (f ρ S).bind fun xs S => g xs S) σ H Q) : RdAP K T Fr f σ H (fun x H1 => r x H1 Q) := by
  obtain ⟨ρ, S, I, A, z, sl, p, S', e, k⟩ := h
  obtain ⟨x, S1, e1, e⟩ := Res.bind_eq_ok e
  exact ⟨ρ, S, I, A, z, sl, x, S1, e1, fun v H1 I1 A1 s1 z1 r1 => hg H1 S1 I1 A1 v x Q p S' z1 r1 e (chainE s1 k)⟩
end
end CC
end

section
/-! CcS4: operations by values. -/
namespace CC
open PySem PySem.Spec PyProof.Rows
open L2 (V HO Hp upd SqL SqT Vals upd_same upd_ne ne_of_none TE TT TA TS TI TG VK PE PT PW PA PS PSs PG PI Ends It OpR CallR MtR IxR SlR)

theorem okS_inv {d : D} {S S' : Sto} {p : Rr} (h : okS d S = .ok p S') : p = (.sh, d) ∧ S' = S := by unfold okS at h; cases h; exact ⟨rfl, rfl⟩
theorem okO_inv {d : D} {S S' : Sto} {p : Rr} (h : okO d S = .ok p S') : p = (.ow, d) ∧ S' = S := by unfold okO at h; cases h; exact ⟨rfl, rfl⟩
theorem if_inv {α : Type} {c : Prop} [Decidable c] {r : Res α} {a : α} {S : Sto} (h : (if c then r else .bad) = .ok a S) : c ∧ r = .ok a S := by
  by_cases q : c
  · rw [if_pos q] at h; exact ⟨q, h⟩
  · rw [if_neg q] at h; cases h

section
variable {K : PySem.W.Frag} {T : Tab} {H I : Hp} {A : List Addr} {S : Sto} {X : L2.Cx}
/-! ### what a content says -/
theorem RepC.int {i : Int} {v : V} (h : RepC K T H I A (.int i) v) : v = .int i := h
theorem RepC.bl {i : Bool} {v : V} (h : RepC K T H I A (.bl i) v) : v = .bl i := h
theorem RepC.str {i : Str} {v : V} (h : RepC K T H I A (.str i) v) : v = .str i := h
theorem RepC.lst {ds : List D} {v : V} (h : RepC K T H I A (.lst ds) v) : ∃ a vs, v = .ref a ∧ H a = some (.lst vs) ∧ Reps K T I A ds vs ∧ a ∉ A := h
theorem RepC.tup {ds : List D} {v : V} (z : St0 K T H S I A) (h : RepC K T H I A (.tup ds) v) : ∃ a vs, v = .ref a ∧ SqT K H a vs ∧ Reps K T I A ds vs ∧ Rep K T I A (.tup ds) (.ref a) := by
  obtain ⟨a, vs, e, q, r⟩ := (show ∃ a vs, v = .ref a ∧ I a = some (.tup vs) ∧ Reps K T I A ds vs from h)
  subst e
  exact ⟨a, vs, rfl, .inl (.inl (z.sub _ _ q)), r, h⟩
theorem RepC.scr {ns : List Int} {v : V} (z : St0 K T H S I A) (h : RepC K T H I A (.scr ns) v) : ∃ a, v = .ref a ∧ SqL K H a (ns.map V.int) := by
  obtain ⟨a, e, q⟩ := (show ∃ a, v = .ref a ∧ SqL K I a (ns.map V.int) from h)
  exact ⟨a, e, SqL.mono z.sub q⟩
/-! ### ends: a value; a new tuple; a new list -/
section
variable {Q : VK} {S' : Sto} {p : Rr}
theorem end_val {d : D} {v : V} (z : St0 K T H S I A) (r : Rep K T I A d v)
    (k : ∀ v H' I' A', Step H I A H' I' A' → St0 K T H' S I' A' → TagOk K T (fun a => H a = none) H' I' A' (.sh, d) v → Q v H') : Q v H := k v H I A .refl z r
theorem end_tup {ds : List D} {vs : List V} {q : Addr} (z : St0 K T H S I A) (r : Reps K T I A ds vs)
    (k : ∀ v H' I' A', Step H I A H' I' A' → St0 K T H' S I' A' → TagOk K T (fun a => H a = none) H' I' A' (.sh, .tup ds) v → Q v H') (hq : H q = none) : Q (.ref q) (upd H q (.tup vs)) := by
  obtain ⟨s, z2⟩ := z.newI hq (.tup vs)
  exact k _ _ _ _ s z2 ⟨q, vs, rfl, upd_same, r.step s⟩
theorem end_lst {ds : List D} {vs : List V} {q : Addr} (z : St0 K T H S I A) (r : Reps K T I A ds vs)
    (k : ∀ v H' I' A', Step H I A H' I' A' → St0 K T H' S I' A' → TagOk K T (fun a => H a = none) H' I' A' (.ow, .lst ds) v → Q v H') (hq : H q = none) : Q (.ref q) (upd H q (.lst vs)) := by
  obtain ⟨s, z2⟩ := z.newO hq (.lst vs)
  obtain ⟨f1, f2⟩ := z.free hq
  exact k _ _ _ _ s z2 ⟨q, rfl, f1, f2, hq, vs, upd_same, r.step s⟩
end
/-! ### arithmetic -/
theorem Reps.rep {ds : List D} {vs : List V} (r : Reps K T I A ds vs) : ∀ n, Reps K T I A (List.replicate n ds).flatten (List.replicate n vs).flatten
  | 0 => rfl
  | n + 1 => by
    rw [List.replicate_succ, List.replicate_succ, List.flatten_cons, List.flatten_cons]
    exact r.append (Reps.rep r n)
theorem szE : szLine = sizeLine := by rw [sizeLine_eq]; decide

def rAddX (K : PySem.W.Frag) : L2.R2 := fun x y H Q => L2.rI0 (fun i j => .int (i + j)) x y H Q ∨ L2.rCat x y H Q ∨ L2.rCatA K x y H Q ∨ (∃ i j, x = .str i ∧ y = .str j ∧ i.length + j.length ≤ sizeLine ∧ Q (.str (i ++ j)) H)
theorem op_addX : OpR X (binaryOp .Add) (rAddX X.K) := L2.op_add.or (L2.op_cat.or (L2.op_catA.or L2.op_add_str))
theorem good_add : Good2 K T (rAddX K) addR := by
  intro H S I A x y dx dy Q p S' z rx ry e k
  unfold addR at e
  split at e
  · rename_i i j
    obtain ⟨rfl, rfl⟩ := okS_inv e
    exact .inl ⟨i, j, rx, ry, end_val z (d := .int (i + j)) rfl k⟩
  · rename_i xs ys
    obtain ⟨hl, e⟩ := if_inv e
    obtain ⟨rfl, rfl⟩ := okO_inv e
    obtain ⟨a, vs, rfl, ha, ra, na⟩ := RepC.lst rx
    obtain ⟨b, ws, rfl, hb, rb, nb⟩ := RepC.lst ry
    refine .inr (.inl ⟨a, b, vs, ws, rfl, rfl, ha, hb, by rw [ra.length, rb.length, ← szE]; exact hl, fun q hq => end_lst z (ra.append rb) k hq⟩)
  · rename_i xs ys
    obtain ⟨hl, e⟩ := if_inv e
    obtain ⟨rfl, rfl⟩ := okS_inv e
    obtain ⟨a, vs, rfl, ha, ra, wa⟩ := RepC.tup z rx
    obtain ⟨b, ws, rfl, hb, rb, wb⟩ := RepC.tup z ry
    refine .inr (.inr (.inl ⟨a, b, vs, ws, rfl, rfl, ha, hb, by rw [ra.length, rb.length, ← szE]; exact hl, fun hn => ?_, fun hn hn2 => ?_, fun hn hn2 q hq => end_tup z (ra.append rb) k hq⟩))
    · have e1 : xs = [] := List.length_eq_zero_iff.mp (by rw [← ra.length, hn]; rfl)
      subst e1
      exact end_val z (d := .tup ([] ++ ys)) wb k
    · have e1 : ys = [] := List.length_eq_zero_iff.mp (by rw [← rb.length, hn2]; rfl)
      subst e1
      exact end_val z (d := .tup (xs ++ [])) (by rw [List.append_nil]; exact wa) k
  · rename_i xs ys
    obtain ⟨hl, e⟩ := if_inv e
    obtain ⟨rfl, rfl⟩ := okS_inv e
    cases rx; cases ry
    exact .inr (.inr (.inr ⟨_, _, rfl, rfl, by rw [← szE]; exact hl, end_val z (d := .str (xs ++ ys)) rfl k⟩))
  · cases e

theorem op_subX : OpR X (binaryOp .Sub) (L2.rI0 fun i j => .int (i - j)) := L2.op_sub
theorem good_sub : Good2 K T (L2.rI0 fun i j => .int (i - j)) subR := by
  intro H S I A x y dx dy Q p S' z rx ry e k
  unfold subR at e
  split at e
  · rename_i i j
    obtain ⟨rfl, rfl⟩ := okS_inv e
    exact ⟨i, j, rx, ry, end_val z (d := .int (i - j)) rfl k⟩
  · cases e
def rMulX (K : PySem.W.Frag) : L2.R2 := fun x y H Q => L2.rI L2.CMul (fun i j => .int (i * j)) x y H Q ∨ L2.rRep x y H Q ∨ L2.rRepT K x y H Q
theorem op_mulX : OpR X (binaryOp .Mult) (rMulX X.K) := L2.op_mul.or (L2.op_rep.or L2.op_repT)
theorem good_mul : Good2 K T (rMulX K) mulR := by
  intro H S I A x y dx dy Q p S' z rx ry e k
  unfold mulR at e
  split at e
  · rename_i i j
    obtain ⟨hl, e⟩ := if_inv e
    obtain ⟨rfl, rfl⟩ := okS_inv e
    exact .inl ⟨i, j, rx, ry, hl.imp Small.of Small.of, end_val z (d := .int (i * j)) rfl k⟩
  · rename_i xs n
    obtain ⟨⟨h1, hl⟩, e⟩ := if_inv e
    obtain ⟨rfl, rfl⟩ := okO_inv e
    obtain ⟨a, vs, rfl, ha, ra, na⟩ := RepC.lst rx
    cases ry
    unfold Rng62 at h1
    exact .inr (.inl ⟨a, n, vs, rfl, rfl, ha, by omega, by omega, by rw [ra.length, ← szE]; exact hl, fun q hq => end_lst z (ra.rep _) k hq⟩)
  · rename_i xs n
    obtain ⟨⟨h1, h2, h3, h4⟩, e⟩ := if_inv e
    obtain ⟨rfl, rfl⟩ := okS_inv e
    obtain ⟨a, vs, rfl, ha, ra, wa⟩ := RepC.tup z rx
    cases ry
    refine .inr (.inr ⟨a, n, vs, rfl, rfl, ha, fun hn => h3 ?_, h1, h2, by rw [ra.length]; exact h4, fun q hq => end_tup z (ra.rep _) k hq⟩)
    rw [← ra.length, hn]; rfl
  · cases e
theorem op_fdivX : OpR X (binaryOp .FloorDiv) (L2.rI L2.CDivW fun i j => .int (i / j)) := L2.op_fdivW
theorem good_fdiv : Good2 K T (L2.rI L2.CDivW fun i j => .int (i / j)) fdivR := by
  intro H S I A x y dx dy Q p S' z rx ry e k
  unfold fdivR at e
  split at e
  · rename_i i j
    obtain ⟨hl, e⟩ := if_inv e
    obtain ⟨rfl, rfl⟩ := okS_inv e
    exact ⟨i, j, rx, ry, hl, end_val z (d := .int (i / j)) rfl k⟩
  · cases e
theorem good_mod : Good2 K T (L2.rI (fun _ j => 0 < j) fun i j => .int (i % j)) modR := by
  intro H S I A x y dx dy Q p S' z rx ry e k
  unfold modR at e
  split at e
  · rename_i i j
    obtain ⟨hl, e⟩ := if_inv e
    obtain ⟨rfl, rfl⟩ := okS_inv e
    exact ⟨i, j, rx, ry, hl, end_val z (d := .int (i % j)) rfl k⟩
  · cases e
theorem good_pow : Good2 K T (L2.rI L2.CPow fun i j => .int (i ^ j.toNat)) powR := by
  intro H S I A x y dx dy Q p S' z rx ry e k
  unfold powR at e
  split at e
  · rename_i i j
    obtain ⟨⟨h1, h2, h3⟩, e⟩ := if_inv e
    obtain ⟨rfl, rfl⟩ := okS_inv e
    unfold Small at h3
    exact ⟨i, j, rx, ry, ⟨h1, by omega, by omega⟩, end_val z (d := .int (i ^ j.toNat)) rfl k⟩
  · cases e
def opOf : Op → Operator
  | .add => .Add | .sub => .Sub | .mul => .Mult | .fdiv => .FloorDiv | .mod => .Mod | .pow => .Pow
def rBin (K : PySem.W.Frag) : Op → L2.R2
  | .add => rAddX K
  | .sub => L2.rI0 fun i j => .int (i - j)
  | .mul => rMulX K
  | .fdiv => L2.rI L2.CDivW fun i j => .int (i / j)
  | .mod => L2.rI (fun _ j => 0 < j) fun i j => .int (i % j)
  | .pow => L2.rI L2.CPow fun i j => .int (i ^ j.toNat)
theorem op_bin : ∀ op, OpR X (binaryOp (opOf op)) (rBin X.K op)
  | .add => op_addX
  | .sub => L2.op_sub
  | .mul => op_mulX
  | .fdiv => L2.op_fdivW
  | .mod => L2.op_mod
  | .pow => L2.op_pow
theorem good_bin : ∀ op, Good2 K T (rBin K op) (binR op)
  | .add => good_add
  | .sub => good_sub
  | .mul => good_mul
  | .fdiv => good_fdiv
  | .mod => good_mod
  | .pow => good_pow

/-! ### == -/
mutual
def toPd : D → PyData
  | .non => .none
  | .bl b => .bool b
  | .int i => .int i
  | .str x => .str x
  | .lst xs => .list (toPds xs)
  | .tup xs => .tuple (toPds xs)
  | _ => .none
def toPds : List D → List PyData
  | [] => []
  | x :: xs => toPd x :: toPds xs
end
mutual
theorem pd_dp (sub : ∀ a o, I a = some o → H a = some o) : ∀ (d : D) (v : V), plain d = true → Rep K T I A d v → L2.Dp K H v (toPd d)
  | .non, v, _, h => by have e : v = .non := h; subst e; exact .non
  | .bl b, v, _, h => by have e : v = .bl b := h; subst e; exact .bl b
  | .int b, v, _, h => by have e : v = .int b := h; subst e; exact .int b
  | .str b, v, _, h => by have e : v = .str b := h; subst e; exact .str b
  | .lst ds, v, p, h => by
    obtain ⟨a, vs, rfl, q, r⟩ := (show ∃ a vs, v = .ref a ∧ I a = some (.lst vs) ∧ Reps K T I A ds vs from h)
    exact .lst (.of (sub _ _ q)) (pds_dp sub ds vs p r)
  | .tup ds, v, p, h => by
    obtain ⟨a, vs, rfl, q, r⟩ := (show ∃ a vs, v = .ref a ∧ I a = some (.tup vs) ∧ Reps K T I A ds vs from h)
    exact .tup (.inl (.inl (sub _ _ q))) (pds_dp sub ds vs p r)
  | .dK _, _, p, _ => by cases p
  | .dT _, _, p, _ => by cases p
  | .obj _ _, _, p, _ => by cases p
  | .cel _, _, p, _ => by cases p
  | .fn _ _, _, p, _ => by cases p
  | .scr _, _, p, _ => by cases p
theorem pds_dp (sub : ∀ a o, I a = some o → H a = some o) : ∀ (ds : List D) (vs : List V), plains ds = true → Reps K T I A ds vs → L2.DpAll K H vs (toPds ds)
  | [], vs, _, h => by have e : vs = [] := h; subst e; exact .nil
  | d :: ds, vs, p, h => by
    obtain ⟨v, r, rfl, q, q2⟩ := (show ∃ v r, vs = v :: r ∧ Rep K T I A d v ∧ Reps K T I A ds r from h)
    have p2 : (plain d && plains ds) = true := p
    rw [Bool.and_eq_true] at p2
    exact .cons (pd_dp sub d v p2.1 q) (pds_dp sub ds r p2.2 q2)
end
theorem pc_dp (z : St0 K T H S I A) : ∀ (d : D) (v : V), plain d = true → RepC K T H I A d v → L2.Dp K H v (toPd d)
  | .non, v, p, h => pd_dp (T := T) (A := A) z.sub .non v p h
  | .bl b, v, p, h => pd_dp (T := T) (A := A) z.sub (.bl b) v p h
  | .int b, v, p, h => pd_dp (T := T) (A := A) z.sub (.int b) v p h
  | .str b, v, p, h => pd_dp (T := T) (A := A) z.sub (.str b) v p h
  | .tup b, v, p, h => pd_dp (T := T) (A := A) z.sub (.tup b) v p h
  | .lst ds, v, p, h => by
    obtain ⟨a, vs, rfl, q, r, _⟩ := RepC.lst h
    exact .lst (.of q) (pds_dp z.sub ds vs p r)
  | .dK _, _, p, _ => by cases p
  | .dT _, _, p, _ => by cases p
  | .obj _ _, _, p, _ => by cases p
  | .cel _, _, p, _ => by cases p
  | .fn _ _, _, p, _ => by cases p
  | .scr _, _, p, _ => by cases p
mutual
theorem pd_lay : ∀ d : D, plain d = true → (toPd d).canLay0 = true
  | .non, _ => by simp [toPd, PyData.canLay0]
  | .bl b, _ => by simp [toPd, PyData.canLay0]
  | .int b, _ => by simp [toPd, PyData.canLay0]
  | .str b, p => by simpa [toPd, PyData.canLay0, PyData.strOk, plain] using p
  | .lst ds, p => by simpa [toPd, PyData.canLay0] using pds_lay ds p
  | .tup ds, p => by simpa [toPd, PyData.canLay0] using pds_lay ds p
  | .dK _, p => by cases p
  | .dT _, p => by cases p
  | .obj _ _, p => by cases p
  | .cel _, p => by cases p
  | .fn _ _, p => by cases p
  | .scr _, p => by cases p
theorem pds_lay : ∀ ds : List D, plains ds = true → PyData.canLayAll0 (toPds ds) = true
  | [], _ => by simp [toPds, PyData.canLayAll0]
  | d :: ds, p => by
    have p2 : (plain d && plains ds) = true := p
    rw [Bool.and_eq_true] at p2
    simp [toPds, PyData.canLayAll0, pd_lay d p2.1, pds_lay ds p2.2]
end
mutual
theorem pd_dep : ∀ d : D, plain d = true → (toPd d).depth = dep d
  | .non, _ => by simp [toPd, PyData.depth, dep]
  | .bl b, _ => by simp [toPd, PyData.depth, dep]
  | .int b, _ => by simp [toPd, PyData.depth, dep]
  | .str b, p => by simp [toPd, PyData.depth, dep]
  | .lst ds, p => by simp [toPd, PyData.depth, dep, pds_dep ds p]
  | .tup ds, p => by simp [toPd, PyData.depth, dep, pds_dep ds p]
  | .dK _, p => by cases p
  | .dT _, p => by cases p
  | .obj _ _, p => by cases p
  | .cel _, p => by cases p
  | .fn _ _, p => by cases p
  | .scr _, p => by cases p
theorem pds_dep : ∀ ds : List D, plains ds = true → PyData.depthAll (toPds ds) = deps ds
  | [], _ => by simp [toPds, PyData.depthAll, deps]
  | d :: ds, p => by
    have p2 : (plain d && plains ds) = true := p
    rw [Bool.and_eq_true] at p2
    simp [toPds, PyData.depthAll, deps, pd_dep d p2.1, pds_dep ds p2.2]
end
theorem pd_shaped {d : D} (h : good d = true) : SeqAt.shaped (toPd d) = true := by
  unfold good at h
  rw [Bool.and_eq_true] at h
  have := of_decide_eq_true h.2
  unfold SeqAt.shaped
  rw [pd_lay d h.1, pd_dep d h.1]
  simp; omega
theorem good_plain {d : D} (h : good d = true) : plain d = true := by
  unfold good at h
  rw [Bool.and_eq_true] at h
  exact h.1
mutual
theorem pd_eqv : ∀ d e : D, plain d = true → plain e = true → PyData.eqv (toPd d) (toPd e) = eqv d e
  | .non, e, _, p => by cases e <;> first | (cases p; done) | simp [toPd, PyData.eqv, eqv]
  | .bl b, e, _, p => by cases e <;> first | (cases p; done) | simp [toPd, PyData.eqv, eqv]
  | .int b, e, _, p => by cases e <;> first | (cases p; done) | simp [toPd, PyData.eqv, eqv]
  | .str b, e, _, p => by cases e <;> first | (cases p; done) | simp [toPd, PyData.eqv, eqv]
  | .lst ds, e, q, p => by
    cases e with
    | lst es => simpa [toPd, PyData.eqv, eqv] using pds_eqv ds es q p
    | _ => first | (cases p; done) | simp [toPd, PyData.eqv, eqv]
  | .tup ds, e, q, p => by
    cases e with
    | tup es => simpa [toPd, PyData.eqv, eqv] using pds_eqv ds es q p
    | _ => first | (cases p; done) | simp [toPd, PyData.eqv, eqv]
  | .dK _, _, p, _ => by cases p
  | .dT _, _, p, _ => by cases p
  | .obj _ _, _, p, _ => by cases p
  | .cel _, _, p, _ => by cases p
  | .fn _ _, _, p, _ => by cases p
  | .scr _, _, p, _ => by cases p
theorem pds_eqv : ∀ ds es : List D, plains ds = true → plains es = true → PyData.eqvAll (toPds ds) (toPds es) = eqvs ds es
  | [], [], _, _ => by simp [toPds, PyData.eqvAll, eqvs]
  | [], _ :: _, _, _ => by simp [toPds, PyData.eqvAll, eqvs]
  | _ :: _, [], _, _ => by simp [toPds, PyData.eqvAll, eqvs]
  | d :: ds, e :: es, p, q => by
    have p2 : (plain d && plains ds) = true := p
    have q2 : (plain e && plains es) = true := q
    rw [Bool.and_eq_true] at p2 q2
    simp [toPds, PyData.eqvAll, eqvs, pd_eqv d e p2.1 q2.1, pds_eqv ds es p2.2 q2.2]
end

/-! ### comparisons: the answer a value -/
/-- what a comparison is asked -/
def GoodC (K : PySem.W.Frag) (T : Tab) (r : V → V → Hp → VK → Prop) (g : D → D → Sto → Res D) : Prop :=
  ∀ H S I A x y dx dy Q p S', St0 K T H S I A → RepC K T H I A dx x → RepC K T H I A dy y → g dx dy S = .ok p S' →
    (∀ H' I' A' k, p = .bl k → Step H I A H' I' A' → St0 K T H' S' I' A' → Q (.bl k) H') → r x y H Q
def rIsN (neg : Bool) : L2.R2 := fun x y H Q => y = .non ∧ Q (.bl (neg != decide (x = .non))) H
theorem op_isX : OpR X (compareOp .Is) (rIsN false) := fun pins s σ H x y v u Q I rx ry h => L2.op_isN pins s σ H x y v u Q I rx ry ⟨h.1, by simpa using h.2⟩
theorem op_isnotX : OpR X (compareOp .IsNot) (rIsN true) := fun pins s σ H x y v u Q I rx ry h => L2.op_notN pins s σ H x y v u Q I rx ry ⟨h.1, by simpa using h.2⟩
theorem non_iff {d : D} {v : V} (h : RepC K T H I A d v) : decide (v = .non) = isNon d := by
  cases d with
  | non => have e : v = .non := h; subst e; rfl
  | bl b => have e : v = .bl b := h; subst e; rfl
  | int b => have e : v = .int b := h; subst e; rfl
  | str b => have e : v = .str b := h; subst e; rfl
  | lst ds => obtain ⟨a, vs, rfl, _⟩ := RepC.lst h; rfl
  | tup ds => obtain ⟨a, vs, rfl, _⟩ := (show ∃ a vs, v = .ref a ∧ I a = some (.tup vs) ∧ Reps K T I A ds vs from h); rfl
  | dK ds => obtain ⟨a, vs, rfl, _⟩ := (show ∃ a ws, v = .ref a ∧ L2.Rd H a (.dK ws) ∧ RepK K T I A ds ws ∧ a ∉ A from h); rfl
  | dT ds => obtain ⟨a, vs, rfl, _⟩ := (show ∃ a ws, v = .ref a ∧ L2.Rd H a (.dT ws) ∧ RepT K T I A ds ws ∧ a ∉ A from h); rfl
  | obj c ds => obtain ⟨a, dx, vs, rfl, _⟩ := (show ∃ a dx vs, v = .ref a ∧ H a = some (.ins (T.ca c) dx ((T.fl c).zip vs)) ∧ vs.length ≤ (T.fl c).length ∧ Reps K T I A ds vs ∧ a ∉ A from h); rfl
  | cel k => obtain ⟨a, rfl, _⟩ := (show ∃ a, v = .ref a ∧ A[k]? = some a from h); rfl
  | fn _ _ => exact h.elim
  | scr ns => obtain ⟨a, rfl, _⟩ := (show ∃ a, v = .ref a ∧ SqL K I a (ns.map V.int) from h); rfl
theorem good_is (neg : Bool) : GoodC K T (rIsN neg) (isR neg) := by
  intro H S I A x y dx dy Q p S' z rx ry e k
  unfold isR at e
  split at e
  · cases e
    cases ry
    refine ⟨rfl, k H I A _ ?_ .refl z⟩
    rw [non_iff rx]
  · cases e
theorem good_le : GoodC K T (L2.rI0 fun i j => .bl (decide (i ≤ j))) leR := by
  intro H S I A x y dx dy Q p S' z rx ry e k
  unfold leR at e
  split at e
  · cases e
    exact ⟨_, _, rx, ry, k H I A _ rfl .refl z⟩
  · cases e
theorem good_ge : GoodC K T (L2.rI0 fun i j => .bl (decide (j ≤ i))) (fun a b => leR b a) := by
  intro H S I A x y dx dy Q p S' z rx ry e k
  dsimp only at e
  unfold leR at e
  split at e
  · cases e
    exact ⟨_, _, rx, ry, k H I A _ rfl .refl z⟩
  · cases e
theorem intsOf_map : ∀ {ds : List D} {ns : List Int}, intsOf ds = some ns → ds = ns.map D.int
  | [], ns, h => by
    unfold intsOf at h
    have e : ns = [] := by injection h with h; exact h.symm
    rw [e]; rfl
  | d :: ds, ns, h => by
    cases d with
    | int i =>
      unfold intsOf at h
      cases q : intsOf ds with
      | none => rw [q] at h; cases h
      | some ms =>
        rw [q] at h
        have e : ns = i :: ms := by injection h with h; exact h.symm
        rw [e, List.map_cons, intsOf_map q]
    | _ => cases h
theorem Reps.ints : ∀ {ns : List Int} {vs : List V}, Reps K T I A (ns.map D.int) vs → vs = ns.map V.int
  | [], vs, h => h
  | n :: ns, vs, h => by
    obtain ⟨v, r, rfl, q, q2⟩ := (show ∃ v r, vs = v :: r ∧ Rep K T I A (.int n) v ∧ Reps K T I A (ns.map D.int) r from h)
    have e : v = .int n := q
    rw [e, Reps.ints q2]; rfl
theorem blsOf_map : ∀ {ds : List D} {ns : List Bool}, blsOf ds = some ns → ds = ns.map D.bl
  | [], ns, h => by
    unfold blsOf at h
    have e : ns = [] := by injection h with h; exact h.symm
    rw [e]; rfl
  | d :: ds, ns, h => by
    cases d with
    | bl i =>
      unfold blsOf at h
      cases q : blsOf ds with
      | none => rw [q] at h; cases h
      | some ms =>
        rw [q] at h
        have e : ns = i :: ms := by injection h with h; exact h.symm
        rw [e, List.map_cons, blsOf_map q]
    | _ => cases h
theorem Reps.bls : ∀ {ns : List Bool} {vs : List V}, Reps K T I A (ns.map D.bl) vs → vs = ns.map V.bl
  | [], vs, h => h
  | n :: ns, vs, h => by
    obtain ⟨v, r, rfl, q, q2⟩ := (show ∃ v r, vs = v :: r ∧ Rep K T I A (.bl n) v ∧ Reps K T I A (ns.map D.bl) r from h)
    have e : v = .bl n := q
    rw [e, Reps.bls q2]; rfl
theorem lexLt_eq : ∀ (a b : List Int), HT.lexLt a b = lexLt a b
  | [], [] => rfl
  | [], _ :: _ => rfl
  | _ :: _, [] => rfl
  | x :: xs, y :: ys => by
    unfold HT.lexLt lexLt
    rw [lexLt_eq xs ys]
end
end CC
end

section
/-! CcS5: more operations by values. -/
namespace CC
open PySem PySem.Spec PyProof.Rows
open L2 (V HO Hp upd SqL SqT Vals upd_same upd_ne ne_of_none TE TT TA TS TI TG VK PE PT PW PA PS PSs PG PI Ends It OpR CallR MtR IxR SlR)
section
variable {K : PySem.W.Frag} {T : Tab} {H I : Hp} {A : List Addr} {S : Sto} {X : L2.Cx}
def rLtX (K : PySem.W.Frag) : L2.R2 := fun x y H Q => L2.rI0 (fun i j => .bl (decide (i < j))) x y H Q ∨ L2.rLtT K x y H Q
theorem op_ltX (hu : X.A.units < cLine) : OpR X (compareOp .Lt) (rLtX X.K) := L2.op_lt.or (L2.op_ltT hu)
theorem good_lt : GoodC K T (rLtX K) (ltR false) := by
  intro H S I A x y dx dy Q p S' z rx ry e k
  unfold ltR at e
  split at e
  · cases e
    exact .inl ⟨_, _, rx, ry, k H I A _ rfl .refl z⟩
  · rename_i xs ys
    rw [if_neg (by decide)] at e
    split at e
    · rename_i ns ms h1 h2
      cases e
      obtain ⟨a, vs, rfl, ha, ra, _⟩ := RepC.tup z rx
      obtain ⟨b, ws, rfl, hb, rb, _⟩ := RepC.tup z ry
      rw [intsOf_map h1] at ra
      rw [intsOf_map h2] at rb
      rw [ra.ints] at ha
      rw [rb.ints] at hb
      refine .inr ⟨a, b, ns, ms, rfl, rfl, ha, hb, k H I A _ ?_ .refl z⟩
      rw [lexLt_eq]
    · cases e
  · cases e
theorem good_gt : GoodC K T (L2.rI0 fun i j => .bl (decide (j < i))) (fun a b => ltR true b a) := by
  intro H S I A x y dx dy Q p S' z rx ry e k
  dsimp only at e
  unfold ltR at e
  split at e
  · cases e
    exact ⟨_, _, rx, ry, k H I A _ rfl .refl z⟩
  · rw [if_pos rfl] at e; cases e
  · cases e
theorem decide_nil {ns : List Int} : PyData.eqv (.list (ns.map PyData.int)) (.list []) = ns.isEmpty := by
  cases ns <;> simp [PyData.eqv, PyData.eqvAll]
theorem scr_dp {ns : List Int} {a : Addr} (q : SqL K H a (ns.map V.int)) : L2.Dp K H (.ref a) (.list (ns.map PyData.int)) := by
  refine .lst q ?_
  have : ∀ ms : List Int, L2.DpAll K H (ms.map V.int) (ms.map PyData.int) := fun ms => by
    induction ms with
    | nil => exact .nil
    | cons m ms ih => exact .cons (.int m) ih
  exact this ns
theorem scr_shaped (ns : List Int) : SeqAt.shaped (.list (ns.map PyData.int)) = true := by
  have h1 : ∀ ms : List Int, PyData.canLayAll0 (ms.map PyData.int) = true := fun ms => by
    induction ms with
    | nil => simp [PyData.canLayAll0]
    | cons m ms ih => simp [PyData.canLayAll0, PyData.canLay0, ih]
  have h2 : ∀ ms : List Int, PyData.depthAll (ms.map PyData.int) = 0 := fun ms => by
    induction ms with
    | nil => simp [PyData.depthAll]
    | cons m ms ih => simp [PyData.depthAll, PyData.depth, ih]
  simp [SeqAt.shaped, PyData.canLay0, PyData.depth, h1, h2]
theorem good_eq : GoodC K T (L2.rEqD K) (eqR false) := by
  intro H S I A x y dx dy Q p S' z rx ry e k
  unfold eqR at e
  split at e
  · rename_i ns
    cases e
    obtain ⟨a, rfl, q⟩ := RepC.scr z rx
    obtain ⟨b, vs, rfl, hb, rb, _⟩ := RepC.lst ry
    have ev : vs = [] := rb
    subst ev
    refine ⟨.list (ns.map PyData.int), .list [], scr_dp q, .lst (.of hb) .nil, scr_shaped ns, by simp [SeqAt.shaped, PyData.canLay0, PyData.canLayAll0, PyData.depth, PyData.depthAll], ?_⟩
    exact k H I A _ (by rw [decide_nil]; simp) .refl z
  · obtain ⟨hg, e⟩ := if_inv e
    rw [Bool.and_eq_true] at hg
    cases e
    refine ⟨toPd dx, toPd dy, pc_dp z dx x (good_plain hg.1) rx, pc_dp z dy y (good_plain hg.2) ry, pd_shaped hg.1, pd_shaped hg.2, ?_⟩
    rw [pd_eqv dx dy (good_plain hg.1) (good_plain hg.2)]
    exact k H I A _ (by simp) .refl z
theorem good_ne : GoodC K T (L2.rNeD K) (eqR true) := by
  intro H S I A x y dx dy Q p S' z rx ry e k
  unfold eqR at e
  split at e
  · rename_i ns
    cases e
    obtain ⟨a, rfl, q⟩ := RepC.scr z rx
    obtain ⟨b, vs, rfl, hb, rb, _⟩ := RepC.lst ry
    have ev : vs = [] := rb
    subst ev
    refine ⟨.list (ns.map PyData.int), .list [], scr_dp q, .lst (.of hb) .nil, scr_shaped ns, by simp [SeqAt.shaped, PyData.canLay0, PyData.canLayAll0, PyData.depth, PyData.depthAll], ?_⟩
    exact k H I A _ (by rw [decide_nil]; simp) .refl z
  · obtain ⟨hg, e⟩ := if_inv e
    rw [Bool.and_eq_true] at hg
    cases e
    refine ⟨toPd dx, toPd dy, pc_dp z dx x (good_plain hg.1) rx, pc_dp z dy y (good_plain hg.2) ry, pd_shaped hg.1, pd_shaped hg.2, ?_⟩
    rw [pd_eqv dx dy (good_plain hg.1) (good_plain hg.2)]
    exact k H I A _ (by simp) .refl z
/-! ### in -/
theorem flat_V : ∀ {d : D} {v : V}, flat d = true → Rep K T I A d v → L2.flatV v = true
  | .non, v, _, h => by have e : v = .non := h; subst e; rfl
  | .bl b, v, _, h => by have e : v = .bl b := h; subst e; rfl
  | .int b, v, _, h => by have e : v = .int b := h; subst e; rfl
  | .str b, v, _, h => by have e : v = .str b := h; subst e; rfl
  | .lst _, _, p, _ => by cases p
  | .tup _, _, p, _ => by cases p
  | .dK _, _, p, _ => by cases p
  | .dT _, _, p, _ => by cases p
  | .obj _ _, _, p, _ => by cases p
  | .cel _, _, p, _ => by cases p
  | .fn _ _, _, p, _ => by cases p
  | .scr _, _, p, _ => by cases p
theorem flat_C {d : D} {v : V} (f : flat d = true) (h : RepC K T H I A d v) : Rep K T I A d v := by
  cases d <;> first | exact h | (cases f; done)
theorem flat_eq {d e : D} {v w : V} (f : flat d = true) (g : flat e = true) (h : Rep K T I A d v) (h2 : Rep K T I A e w) : L2.eqV v w = eqv d e := by
  cases d <;> first | (cases f; done) | (cases e <;> first | (cases g; done) | (cases h; cases h2; simp [L2.eqV, eqv]))
theorem flat_all : ∀ {ds : List D} {vs : List V}, ds.all flat = true → Reps K T I A ds vs → vs.all L2.flatV = true
  | [], vs, _, h => by have e : vs = [] := h; subst e; rfl
  | d :: ds, vs, f, h => by
    obtain ⟨v, r, rfl, q, q2⟩ := (show ∃ v r, vs = v :: r ∧ Rep K T I A d v ∧ Reps K T I A ds r from h)
    rw [List.all_cons, Bool.and_eq_true] at f ⊢
    exact ⟨flat_V f.1 q, flat_all f.2 q2⟩
theorem flat_in {d : D} {v : V} (f : flat d = true) (h : Rep K T I A d v) : ∀ {ds : List D} {vs : List V}, ds.all flat = true → Reps K T I A ds vs → L2.inV v vs = ds.any fun y => eqv y d
  | [], vs, _, h => by have e : vs = [] := h; subst e; rfl
  | x :: ds, vs, g, h2 => by
    obtain ⟨w, r, rfl, q, q2⟩ := (show ∃ v r, vs = v :: r ∧ Rep K T I A x v ∧ Reps K T I A ds r from h2)
    rw [List.all_cons, Bool.and_eq_true] at g
    have ih := flat_in f h g.2 q2
    unfold L2.inV at ih ⊢
    rw [List.any_cons, List.any_cons, ih, flat_eq g.1 f q h]
theorem pds_any (d : D) (hd : plain d = true) : ∀ ds : List D, plains ds = true → ((toPds ds).any fun z => PyData.eqv z (toPd d)) = ds.any fun y => eqv y d
  | [], _ => by simp [toPds]
  | x :: xs, p => by
    have p2 : (plain x && plains xs) = true := p
    rw [Bool.and_eq_true] at p2
    simp only [toPds, List.any_cons]
    rw [pds_any d hd xs p2.2, pd_eqv x d p2.1 hd]
theorem keyOf_V {d : D} {k : Ky} {v : V} (e : keyOf d = some k) (h : RepC K T H I A d v) : v = L2.kV k := by
  unfold keyOf at e
  split at e
  · cases e; exact h
  · cases e; exact h
  · cases e
theorem keysOf_V : ∀ {ds : List D} {ks : List Ky} {vs : List V}, keysOf ds = some ks → Reps K T I A ds vs → vs = ks.map L2.kV
  | [], ks, vs, e, h => by
    have h' : vs = [] := h
    cases e; subst h'; rfl
  | d :: ds, ks, vs, e, h => by
    obtain ⟨v, r, rfl, q, q2⟩ := (show ∃ v r, vs = v :: r ∧ Rep K T I A d v ∧ Reps K T I A ds r from h)
    unfold keysOf at e
    split at e
    · rename_i k ks' h1 h2
      cases e
      have hv : v = L2.kV k := by
        unfold keyOf at h1
        split at h1
        · cases h1; exact q
        · cases h1; exact q
        · cases h1
      rw [hv, keysOf_V h2 q2]; rfl
    · cases e
theorem RepK.get : ∀ {kvs : List (Ky × D)} {ws : List (Ky × V)} (k : Ky), RepK K T I A kvs ws →
    (dGet kvs k = none ∧ L2.valV ws k = none) ∨ ∃ d v, dGet kvs k = some d ∧ L2.valV ws k = some v ∧ Rep K T I A d v
  | [], ws, k, h => by have e : ws = [] := h; subst e; exact .inl ⟨rfl, rfl⟩
  | (k', d) :: kvs, ws, k, h => by
    obtain ⟨v, r, rfl, q, q2⟩ := (show ∃ v r, ws = (k', v) :: r ∧ Rep K T I A d v ∧ RepK K T I A kvs r from h)
    by_cases hk : k' = k
    · refine .inr ⟨d, v, ?_, ?_, q⟩
      · unfold dGet; rw [List.find?_cons_of_pos (by simp [hk])]; rfl
      · unfold L2.valV; rw [List.find?_cons_of_pos (by simp [hk])]; rfl
    · rcases RepK.get k q2 with ⟨h1, h2⟩ | ⟨d2, v2, h1, h2, h3⟩
      · refine .inl ⟨?_, ?_⟩
        · unfold dGet at h1 ⊢; rw [List.find?_cons_of_neg (by simp [hk])]; exact h1
        · unfold L2.valV at h2 ⊢; rw [List.find?_cons_of_neg (by simp [hk])]; exact h2
      · refine .inr ⟨d2, v2, ?_, ?_, h3⟩
        · unfold dGet at h1 ⊢; rw [List.find?_cons_of_neg (by simp [hk])]; exact h1
        · unfold L2.valV at h2 ⊢; rw [List.find?_cons_of_neg (by simp [hk])]; exact h2
theorem RepT.get : ∀ {kvs : List (List Ky × D)} {ws : List (List Ky × V)} (k : List Ky), RepT K T I A kvs ws →
    (dGet kvs k = none ∧ L2.valV ws k = none) ∨ ∃ d v, dGet kvs k = some d ∧ L2.valV ws k = some v ∧ Rep K T I A d v
  | [], ws, k, h => by have e : ws = [] := h; subst e; exact .inl ⟨rfl, rfl⟩
  | (k', d) :: kvs, ws, k, h => by
    obtain ⟨v, r, rfl, q, q2⟩ := (show ∃ v r, ws = (k', v) :: r ∧ Rep K T I A d v ∧ RepT K T I A kvs r from h)
    by_cases hk : k' = k
    · refine .inr ⟨d, v, ?_, ?_, q⟩
      · unfold dGet; rw [List.find?_cons_of_pos (by simp [hk])]; rfl
      · unfold L2.valV; rw [List.find?_cons_of_pos (by simp [hk])]; rfl
    · rcases RepT.get k q2 with ⟨h1, h2⟩ | ⟨d2, v2, h1, h2, h3⟩
      · refine .inl ⟨?_, ?_⟩
        · unfold dGet at h1 ⊢; rw [List.find?_cons_of_neg (by simp [hk])]; exact h1
        · unfold L2.valV at h2 ⊢; rw [List.find?_cons_of_neg (by simp [hk])]; exact h2
      · refine .inr ⟨d2, v2, ?_, ?_, h3⟩
        · unfold dGet at h1 ⊢; rw [List.find?_cons_of_neg (by simp [hk])]; exact h1
        · unfold L2.valV at h2 ⊢; rw [List.find?_cons_of_neg (by simp [hk])]; exact h2
def rInX (K : PySem.W.Frag) (neg : Bool) : L2.R2 := fun x y H Q => (if neg then L2.rNotInD K x y H Q else L2.rInD K x y H Q) ∨ L2.rIn K neg x y H Q
theorem op_inX (hu : X.A.units + 65 < cLine) : OpR X (compareOp .In) (rInX X.K false) := (L2.op_inD hu).or L2.op_in_seq
theorem op_notinX (hu : X.A.units + 65 < cLine) : OpR X (compareOp .NotIn) (rInX X.K true) := (L2.op_notInD hu).or L2.op_notIn_seq

theorem neg_if (neg b : Bool) : (neg != b) = if neg = true then !b else b := by cases neg <;> cases b <;> rfl
theorem good_in (neg : Bool) : GoodC K T (rInX K neg) (inR neg) := by
  intro H S I A x y dx dy Q p S' z rx ry e k
  unfold inR at e
  split at e
  · rename_i xs
    obtain ⟨hg, e⟩ := if_inv e
    rw [Bool.and_eq_true] at hg
    cases e
    have pl : plains xs = true := good_plain hg.2
    have d1 := pc_dp z dx x (good_plain hg.1) rx
    have d2 := pc_dp z (.lst xs) y (good_plain hg.2) ry
    have s2 := pd_shaped hg.2
    have q := k H I A _ rfl .refl z
    rw [← pds_any dx (good_plain hg.1) xs pl] at q
    cases neg with
    | false => exact .inl ⟨toPd dx, toPds xs, d1, by simpa [toPd] using d2, pd_shaped hg.1, by simpa [toPd] using s2, by simpa using q⟩
    | true => exact .inl ⟨toPd dx, toPds xs, d1, by simpa [toPd] using d2, pd_shaped hg.1, by simpa [toPd] using s2, by simpa using q⟩
  · rename_i xs
    obtain ⟨hg, e⟩ := if_inv e
    rw [Bool.and_eq_true] at hg
    cases e
    obtain ⟨b, ws, rfl, hb, rb, _⟩ := RepC.tup z ry
    have rx' := flat_C hg.1 rx
    refine .inr ⟨b, ws, rfl, .inr hb, flat_V hg.1 rx', flat_all hg.2 rb, ?_⟩
    rw [flat_in hg.1 rx' hg.2 rb, ← neg_if]
    exact k H I A _ rfl .refl z
  · cases e
def cpOf : Cp → CmpOp
  | .eq => .Eq | .ne => .NotEq | .lt => .Lt | .le => .LtE | .gt => .Gt | .ge => .GtE | .is_ => .Is | .isnot => .IsNot | .in_ => .In | .notin => .NotIn
def rCmp (K : PySem.W.Frag) : Cp → L2.R2
  | .eq => L2.rEqD K
  | .ne => L2.rNeD K
  | .lt => rLtX K
  | .le => L2.rI0 fun i j => .bl (decide (i ≤ j))
  | .gt => L2.rI0 fun i j => .bl (decide (j < i))
  | .ge => L2.rI0 fun i j => .bl (decide (j ≤ i))
  | .is_ => rIsN false
  | .isnot => rIsN true
  | .in_ => rInX K false
  | .notin => rInX K true
theorem op_cmp (hu : X.A.units + 65 < cLine) : ∀ op, OpR X (compareOp (cpOf op)) (rCmp X.K op)
  | .eq => L2.op_eqD (by omega)
  | .ne => L2.op_neD (by omega)
  | .lt => op_ltX (by omega)
  | .le => L2.op_le
  | .gt => L2.op_gt
  | .ge => L2.op_ge
  | .is_ => op_isX
  | .isnot => op_isnotX
  | .in_ => op_inX hu
  | .notin => op_notinX hu
theorem good_cmp : ∀ op, GoodC K T (rCmp K op) (cmpR op)
  | .eq => good_eq
  | .ne => good_ne
  | .lt => good_lt
  | .le => good_le
  | .gt => good_gt
  | .ge => good_ge
  | .is_ => good_is false
  | .isnot => good_is true
  | .in_ => good_in false
  | .notin => good_in true
/-! ### items, slices -/
theorem ixN_eq (n : Nat) (i : Int) : L2.ixN n i = ixN n i := rfl
def rIxX (K : PySem.W.Frag) : L2.R2 := fun x y H Q => L2.rIx K x y H Q
theorem good_ix : Good2 K T (L2.rIx K) ixR := by
  intro H S I A x y dx dy Q p S' z rx ry e k
  unfold ixR at e
  split at e
  · rename_i xs i
    split at e
    · rename_i d hd
      obtain ⟨rfl, rfl⟩ := okS_inv e
      obtain ⟨a, vs, rfl, ha, ra, _⟩ := RepC.lst rx
      cases ry
      obtain ⟨j, hj, hd⟩ := Option.bind_eq_some_iff.mp hd
      obtain ⟨v, hv, rv⟩ := ra.get hd
      refine .inl ⟨a, vs, i, v, rfl, rfl, .of ha, ?_, end_val z rv k⟩
      unfold L2.atI
      rw [ixN_eq, ra.length, hj]; exact hv
    · cases e
  · rename_i xs i
    split at e
    · rename_i d hd
      obtain ⟨rfl, rfl⟩ := okS_inv e
      obtain ⟨a, vs, rfl, ha, ra, _⟩ := RepC.tup z rx
      cases ry
      obtain ⟨j, hj, hd⟩ := Option.bind_eq_some_iff.mp hd
      obtain ⟨v, hv, rv⟩ := ra.get hd
      refine .inr (.inl ⟨a, vs, i, v, rfl, rfl, ha, ?_, end_val z rv k⟩)
      unfold L2.atI
      rw [ixN_eq, ra.length, hj]; exact hv
    · cases e
  · rename_i x i
    split at e
    · rename_i c hc
      obtain ⟨hl, e⟩ := if_inv e
      obtain ⟨rfl, rfl⟩ := okS_inv e
      cases rx; cases ry
      exact .inr (.inr ⟨x, i, c, rfl, rfl, by rw [← szE]; exact hl, hc, end_val z (d := .str ⟨#[c]⟩) rfl k⟩)
    · cases e
  · rename_i ns i
    split at e
    · rename_i d hd
      obtain ⟨rfl, rfl⟩ := okS_inv e
      obtain ⟨a, rfl, q⟩ := RepC.scr z rx
      cases ry
      obtain ⟨j, hj, hd⟩ := Option.bind_eq_some_iff.mp hd
      refine .inl ⟨a, ns.map V.int, i, .int d, rfl, rfl, q, ?_, end_val z (d := .int d) rfl k⟩
      unfold L2.atI
      rw [ixN_eq, List.length_map, hj]
      show (ns.map V.int)[j]? = _
      rw [List.getElem?_map, hd]; rfl
    · cases e
  · rename_i c i
    split at e
    · rename_i xs hx
      split at e
      · rename_i d hd
        obtain ⟨rfl, rfl⟩ := okS_inv e
        obtain ⟨a, rfl, ha⟩ := (show ∃ a, x = .ref a ∧ A[c]? = some a from rx)
        obtain ⟨hI, ds, vs, e1, hH, r⟩ := z.cel c a _ ha hx
        cases e1
        cases ry
        obtain ⟨j, hj, hd⟩ := Option.bind_eq_some_iff.mp hd
        obtain ⟨v, hv, rv⟩ := r.get hd
        refine .inl ⟨a, vs, i, v, rfl, rfl, .of hH, ?_, end_val z rv k⟩
        unfold L2.atI
        rw [ixN_eq, r.length, hj]; exact hv
      · cases e
    · cases e
  · cases e
theorem cut_len {α β : Type} {xs : List α} {ys : List β} (h : xs.length = ys.length) (lo hi : Option Int) : HT.sIx xs.length 0 lo = sIx ys.length 0 lo ∧ HT.sIx xs.length xs.length hi = sIx ys.length ys.length hi := by
  rw [h]; exact ⟨rfl, rfl⟩
theorem Reps.cut {ds : List D} {vs : List V} (r : Reps K T I A ds vs) (lo hi : Option Int) : Reps K T I A (cut ds lo hi) (L2.cutV vs lo hi) := by
  unfold CC.cut L2.cutV
  obtain ⟨e1, e2⟩ := cut_len r.length lo hi
  rw [e1, e2]
  exact (r.drop _).take _
/-- what a slice is asked -/
def GoodSl (K : PySem.W.Frag) (T : Tab) (r : V → Option Int → Option Int → Hp → VK → Prop) : Prop :=
  ∀ H S I A x dx lo hi Q p S', St0 K T H S I A → RepC K T H I A dx x → slR dx lo hi S = .ok p S' →
    (∀ v H' I' A', Step H I A H' I' A' → St0 K T H' S' I' A' → TagOk K T (fun a => H a = none) H' I' A' p v → Q v H') → r x lo hi H Q
def rSlX (K : PySem.W.Frag) : V → Option Int → Option Int → Hp → VK → Prop := fun x lo hi H Q => L2.rSlL K x lo hi H Q ∨ L2.rSlA K x lo hi H Q
theorem sl_X : SlR X (rSlX X.K) := fun pins s σ H x v vl vu lo hi sl Q I rx hs pl pu h => h.elim
  (fun h => L2.sl_list pins s σ H x v vl vu lo hi sl Q I rx hs pl pu h) (fun h => L2.sl_tupA pins s σ H x v vl vu lo hi sl Q I rx hs pl pu h)
theorem good_sl : GoodSl K T (rSlX K) := by
  intro H S I A x dx lo hi Q p S' z rx e k
  unfold slR at e
  split at e
  · rename_i xs
    obtain ⟨rfl, rfl⟩ := okO_inv e
    obtain ⟨a, vs, rfl, ha, ra, _⟩ := RepC.lst rx
    exact .inl ⟨a, vs, rfl, .of ha, fun q hq => end_lst z (ra.cut lo hi) k hq⟩
  · rename_i xs
    obtain ⟨rfl, rfl⟩ := okS_inv e
    obtain ⟨a, vs, rfl, ha, ra, wa⟩ := RepC.tup z rx
    refine .inr ⟨a, vs, rfl, ha, fun hw => ?_, fun _ q hq => end_tup z (ra.cut lo hi) k hq⟩
    obtain ⟨e1, e2⟩ := cut_len ra.length lo hi
    rw [e1, e2, ra.length] at hw
    have hc : cut xs lo hi = xs := by
      unfold CC.cut
      rw [hw.1, hw.2]; simp
    rw [hc] at k
    exact end_val z wa k
  · cases e
end
end CC
end

section
/-! CcS6: built-ins by values; truth. -/
namespace CC
open PySem PySem.Spec PyProof.Rows
open L2 (V HO Hp upd SqL SqT Vals upd_same upd_ne ne_of_none TE TT TA TS TI TG VK PE PT PW PA PS PSs PG PI Ends It OpR CallR MtR IxR SlR)
section
variable {K : PySem.W.Frag} {T : Tab} {H I : Hp} {A : List Addr} {S : Sto} {X : L2.Cx}
theorem CallR.or {f : Value} {r r' : List V → Hp → VK → Prop} (h : CallR X f r) (h' : CallR X f r') : CallR X f (fun x H Q => r x H Q ∨ r' x H Q) :=
  fun pins s σ H x us Q I rx hq => hq.elim (fun q => h pins s σ H x us Q I rx q) (fun q => h' pins s σ H x us Q I rx q)
theorem RepCs.one {d : D} {vs : List V} (h : RepCs K T H I A [d] vs) : ∃ v, vs = [v] ∧ RepC K T H I A d v := by
  obtain ⟨v, r, e, q, q2⟩ := (show ∃ v r, vs = v :: r ∧ RepC K T H I A d v ∧ RepCs K T H I A [] r from h)
  have e2 : r = [] := q2
  exact ⟨v, by rw [e, e2], q⟩
theorem RepCs.two {d e : D} {vs : List V} (h : RepCs K T H I A [d, e] vs) : ∃ v w, vs = [v, w] ∧ RepC K T H I A d v ∧ RepC K T H I A e w := by
  obtain ⟨v, r, e1, q, q2⟩ := (show ∃ v r, vs = v :: r ∧ RepC K T H I A d v ∧ RepCs K T H I A [e] r from h)
  obtain ⟨w, e2, q3⟩ := q2.one
  exact ⟨v, w, by rw [e1, e2], q, q3⟩
def rLenX (K : PySem.W.Frag) : List V → Hp → VK → Prop := fun xs H Q => ∃ x n, xs = [x] ∧ L2.LenV K x H n ∧ Q (.int n) H
theorem good_len : GoodN K T (rLenX K) lenR := by
  intro H S I A x dx Q p S' z rx e k
  unfold lenR at e
  split at e
  · rename_i xs
    obtain ⟨rfl, rfl⟩ := okS_inv e
    obtain ⟨v, rfl, q⟩ := rx.one
    obtain ⟨a, vs, rfl, ha, ra, _⟩ := RepC.lst q
    exact ⟨_, xs.length, rfl, .inl ⟨vs, .of ha, ra.length.symm⟩, end_val z (d := .int xs.length) rfl k⟩
  · rename_i xs
    obtain ⟨rfl, rfl⟩ := okS_inv e
    obtain ⟨v, rfl, q⟩ := rx.one
    obtain ⟨a, vs, rfl, ha, ra, _⟩ := RepC.tup z q
    exact ⟨_, xs.length, rfl, .inr ⟨vs, ha, ra.length.symm⟩, end_val z (d := .int xs.length) rfl k⟩
  · rename_i xs
    obtain ⟨rfl, rfl⟩ := okS_inv e
    obtain ⟨v, rfl, q⟩ := rx.one
    obtain ⟨a, rfl, q2⟩ := RepC.scr z q
    exact ⟨_, xs.length, rfl, .inl ⟨_, q2, by rw [List.length_map]⟩, end_val z (d := .int xs.length) rfl k⟩
  · rename_i xs
    obtain ⟨hl, e⟩ := if_inv e
    obtain ⟨rfl, rfl⟩ := okS_inv e
    obtain ⟨v, rfl, q⟩ := rx.one
    cases q
    exact ⟨_, xs.length, rfl, ⟨by rw [← szE]; exact hl, rfl⟩, end_val z (d := .int xs.length) rfl k⟩
  · cases e
def rAbsX : List V → Hp → VK → Prop := fun xs H Q => ∃ i, xs = [.int i] ∧ Q (.int (if i < 0 then -i else i)) H
theorem good_abs : GoodN K T rAbsX absR := by
  intro H S I A x dx Q p S' z rx e k
  unfold absR at e
  split at e
  · rename_i i
    obtain ⟨rfl, rfl⟩ := okS_inv e
    obtain ⟨v, rfl, q⟩ := rx.one
    cases q
    exact ⟨i, rfl, end_val z (d := .int (if i < 0 then -i else i)) rfl k⟩
  · cases e
theorem best_mem (f : Int → Int → Bool) : ∀ (ns : List Int) (n : Int), bestI f n ns ∈ n :: ns
  | [], n => by simp [bestI]
  | m :: ns, n => by
    unfold bestI
    have := best_mem f ns (if f m n = true then m else n)
    rcases List.mem_cons.mp this with q | q
    · rw [q]; split <;> simp
    · exact List.mem_cons_of_mem _ (List.mem_cons_of_mem _ q)
theorem best_min : ∀ (ns : List Int) (n : Int), ∀ y ∈ n :: ns, bestI (fun x m => decide (x < m)) n ns ≤ y
  | [], n, y, h => by simp at h; subst h; simp [bestI]
  | m :: ns, n, y, h => by
    unfold bestI
    have ih := best_min ns (if decide (m < n) = true then m else n)
    have h0 := ih _ List.mem_cons_self
    rcases List.mem_cons.mp h with q | q
    · subst q
      by_cases c : m < y
      · simp only [c, decide_true, if_true] at h0 ⊢; omega
      · simp only [c, decide_false] at h0 ⊢; simpa using h0
    · rcases List.mem_cons.mp q with q | q
      · subst q
        by_cases c : y < n
        · simp only [c, decide_true, if_true] at h0 ⊢; exact h0
        · simp only [c, decide_false] at h0 ⊢; simp at h0 ⊢; omega
      · exact ih y (List.mem_cons_of_mem _ q)
theorem best_max : ∀ (ns : List Int) (n : Int), ∀ y ∈ n :: ns, y ≤ bestI (fun x m => decide (m < x)) n ns
  | [], n, y, h => by simp at h; subst h; simp [bestI]
  | m :: ns, n, y, h => by
    unfold bestI
    have ih := best_max ns (if decide (n < m) = true then m else n)
    have h0 := ih _ List.mem_cons_self
    rcases List.mem_cons.mp h with q | q
    · subst q
      by_cases c : y < m
      · simp only [c, decide_true, if_true] at h0 ⊢; omega
      · simp only [c, decide_false] at h0 ⊢; simpa using h0
    · rcases List.mem_cons.mp q with q | q
      · subst q
        by_cases c : n < y
        · simp only [c, decide_true, if_true] at h0 ⊢; exact h0
        · simp only [c, decide_false] at h0 ⊢; simp at h0 ⊢; omega
      · exact ih y (List.mem_cons_of_mem _ q)
def rMinX (K : PySem.W.Frag) : List V → Hp → VK → Prop := fun xs H Q => (∃ i j, xs = [.int i, .int j] ∧ Q (.int (if j < i then j else i)) H) ∨ L2.rMin K xs H Q
theorem call_minX (hc : X.calm = true) : CallR X (.builtin "min") (rMinX X.K) := (L2.call_min2 hc).or (L2.cr_min hc)
theorem good_min : GoodN K T (rMinX K) minR := by
  intro H S I A x dx Q p S' z rx e k
  unfold minR at e
  split at e
  · rename_i i j
    obtain ⟨rfl, rfl⟩ := okS_inv e
    obtain ⟨v, w, rfl, q1, q2⟩ := rx.two
    cases q1; cases q2
    exact .inl ⟨i, j, rfl, end_val z (d := .int (if j < i then j else i)) rfl k⟩
  · rename_i xs
    split at e
    · rename_i n ns hn
      obtain ⟨rfl, rfl⟩ := okS_inv e
      obtain ⟨v, rfl, q⟩ := rx.one
      obtain ⟨a, vs, rfl, ha, ra, _⟩ := RepC.lst q
      rw [intsOf_map hn] at ra
      have e := ra.ints
      subst e
      refine .inr ⟨a, n :: ns, rfl, .of ha, by simp, fun m hm hle => ?_⟩
      have hm2 : m = bestI (fun x m => decide (x < m)) n ns := Int.le_antisymm (hle _ (best_mem _ ns n)) (best_min ns n m hm)
      rw [hm2]
      exact end_val z (d := .int _) rfl k
    · cases e
  · cases e
def rMaxX (K : PySem.W.Frag) : List V → Hp → VK → Prop := fun xs H Q => (∃ i j, xs = [.int i, .int j] ∧ Q (.int (if j > i then j else i)) H) ∨ L2.rMax K xs H Q
theorem call_maxX (hc : X.calm = true) : CallR X (.builtin "max") (rMaxX X.K) := (L2.call_max2 hc).or (L2.cr_max hc)
theorem good_max : GoodN K T (rMaxX K) maxR := by
  intro H S I A x dx Q p S' z rx e k
  unfold maxR at e
  split at e
  · rename_i i j
    obtain ⟨rfl, rfl⟩ := okS_inv e
    obtain ⟨v, w, rfl, q1, q2⟩ := rx.two
    cases q1; cases q2
    exact .inl ⟨i, j, rfl, end_val z (d := .int (if j > i then j else i)) rfl k⟩
  · rename_i xs
    split at e
    · rename_i n ns hn
      obtain ⟨rfl, rfl⟩ := okS_inv e
      obtain ⟨v, rfl, q⟩ := rx.one
      obtain ⟨a, vs, rfl, ha, ra, _⟩ := RepC.lst q
      rw [intsOf_map hn] at ra
      have e := ra.ints
      subst e
      refine .inr ⟨a, n :: ns, rfl, .of ha, by simp, fun m hm hle => ?_⟩
      have hm2 : m = bestI (fun x m => decide (m < x)) n ns := Int.le_antisymm (best_max ns n m hm) (hle _ (best_mem _ ns n))
      rw [hm2]
      exact end_val z (d := .int _) rfl k
    · cases e
  · cases e
theorem good_sum : GoodN K T (L2.rSum K) sumR := by
  intro H S I A x dx Q p S' z rx e k
  unfold sumR at e
  split at e
  · rename_i xs
    split at e
    · rename_i ns hn
      obtain ⟨rfl, rfl⟩ := okS_inv e
      obtain ⟨v, rfl, q⟩ := rx.one
      obtain ⟨a, vs, rfl, ha, ra, _⟩ := RepC.lst q
      rw [intsOf_map hn] at ra
      have e := ra.ints
      subst e
      exact ⟨a, ns, rfl, .of ha, end_val z (d := .int ns.sum) rfl k⟩
    · cases e
  · cases e
theorem good_all : GoodN K T (L2.rAll K) allR := by
  intro H S I A x dx Q p S' z rx e k
  unfold allR at e
  split at e
  · rename_i xs
    split at e
    · rename_i ns hn
      obtain ⟨rfl, rfl⟩ := okS_inv e
      obtain ⟨v, rfl, q⟩ := rx.one
      obtain ⟨a, vs, rfl, ha, ra, _⟩ := RepC.lst q
      rw [blsOf_map hn] at ra
      have e := ra.bls
      subst e
      exact ⟨a, ns, rfl, .of ha, end_val z (d := .bl (ns.all id)) rfl k⟩
    · cases e
  · cases e
theorem good_any : GoodN K T (L2.rAny K) anyR := by
  intro H S I A x dx Q p S' z rx e k
  unfold anyR at e
  split at e
  · rename_i xs
    split at e
    · rename_i ns hn
      obtain ⟨rfl, rfl⟩ := okS_inv e
      obtain ⟨v, rfl, q⟩ := rx.one
      obtain ⟨a, vs, rfl, ha, ra, _⟩ := RepC.lst q
      rw [blsOf_map hn] at ra
      have e := ra.bls
      subst e
      exact ⟨a, ns, rfl, .of ha, end_val z (d := .bl (ns.any id)) rfl k⟩
    · cases e
  · cases e
def rIntX : List V → Hp → VK → Prop := fun xs H Q => (∃ i, xs = [.int i] ∧ Q (.int i) H) ∨ ∃ k, xs = [.bl k] ∧ Q (.int (if k then 1 else 0)) H
theorem good_int : GoodN K T rIntX intR := by
  intro H S I A x dx Q p S' z rx e k
  unfold intR at e
  split at e
  · rename_i i
    obtain ⟨rfl, rfl⟩ := okS_inv e
    obtain ⟨v, rfl, q⟩ := rx.one
    cases q
    exact .inl ⟨i, rfl, end_val z (d := .int i) rfl k⟩
  · rename_i i
    obtain ⟨rfl, rfl⟩ := okS_inv e
    obtain ⟨v, rfl, q⟩ := rx.one
    cases q
    exact .inr ⟨i, rfl, end_val z (d := .int (if i then 1 else 0)) rfl k⟩
  · cases e
def rBoolX : List V → Hp → VK → Prop := fun xs H Q => (∃ i, xs = [.int i] ∧ Q (.bl (i != 0)) H) ∨ ∃ k, xs = [.bl k] ∧ Q (.bl k) H
theorem good_bool : GoodN K T rBoolX boolR := by
  intro H S I A x dx Q p S' z rx e k
  unfold boolR at e
  split at e
  · rename_i i
    obtain ⟨rfl, rfl⟩ := okS_inv e
    obtain ⟨v, rfl, q⟩ := rx.one
    cases q
    exact .inl ⟨i, rfl, end_val z (d := .bl (i != 0)) rfl k⟩
  · rename_i i
    obtain ⟨rfl, rfl⟩ := okS_inv e
    obtain ⟨v, rfl, q⟩ := rx.one
    cases q
    exact .inr ⟨i, rfl, end_val z (d := .bl i) rfl k⟩
  · cases e
def rListX (K : PySem.W.Frag) : List V → Hp → VK → Prop := fun xs H Q => ∃ p ys, xs = [.ref p] ∧ (SqL K H p ys ∨ SqT K H p ys) ∧ ∀ l, H l = none → Q (.ref l) (upd H l (.lst ys))
theorem good_list : GoodN K T (rListX K) listR := by
  intro H S I A x dx Q p S' z rx e k
  unfold listR at e
  split at e
  · obtain ⟨rfl, rfl⟩ := okO_inv e
    obtain ⟨v, rfl, q⟩ := rx.one
    obtain ⟨a, vs, rfl, ha, ra, _⟩ := RepC.lst q
    exact ⟨a, vs, rfl, .inl (.of ha), fun l hl => end_lst z ra k hl⟩
  · obtain ⟨rfl, rfl⟩ := okO_inv e
    obtain ⟨v, rfl, q⟩ := rx.one
    obtain ⟨a, vs, rfl, ha, ra, _⟩ := RepC.tup z q
    exact ⟨a, vs, rfl, .inr ha, fun l hl => end_lst z ra k hl⟩
  · cases e
def rTupleX (K : PySem.W.Frag) : List V → Hp → VK → Prop := fun xs H Q => ∃ p ys, xs = [.ref p] ∧ ((SqL K H p ys ∧ ∀ l, H l = none → Q (.ref l) (upd H l (.tup ys))) ∨ (SqT K H p ys ∧ Q (.ref p) H))
theorem good_tuple : GoodN K T (rTupleX K) tupleR := by
  intro H S I A x dx Q p S' z rx e k
  unfold tupleR at e
  split at e
  · obtain ⟨rfl, rfl⟩ := okS_inv e
    obtain ⟨v, rfl, q⟩ := rx.one
    obtain ⟨a, vs, rfl, ha, ra, _⟩ := RepC.lst q
    exact ⟨a, vs, rfl, .inl ⟨.of ha, fun l hl => end_tup z ra k hl⟩⟩
  · obtain ⟨rfl, rfl⟩ := okS_inv e
    obtain ⟨v, rfl, q⟩ := rx.one
    obtain ⟨a, vs, rfl, ha, ra, wa⟩ := RepC.tup z q
    exact ⟨a, vs, rfl, .inr ⟨ha, end_val z wa k⟩⟩
  · cases e
/-! ### truth -/
theorem Reps.isEmpty {ds : List D} {vs : List V} (r : Reps K T I A ds vs) : (!ds.isEmpty) = !vs.isEmpty := by
  have := r.length
  cases ds <;> cases vs <;> simp_all
theorem truth_ok {d : D} {v : V} {S S' : Sto} {k : Bool} (z : St0 K T H S I A) (h : RepC K T H I A d v) (e : truthR d S = .ok k S') : S' = S ∧ L2.TruV K v H k := by
  unfold truthR at e
  split at e
  · cases e; cases h; exact ⟨rfl, rfl⟩
  · cases e; cases h; exact ⟨rfl, rfl⟩
  · cases e; cases h; exact ⟨rfl, rfl⟩
  · obtain ⟨hl, e⟩ := if_inv e
    cases e; cases h
    refine ⟨rfl, by rw [← szE]; exact hl, ?_⟩
    rename_i x
    cases q : x.length with
    | zero => rfl
    | succ n => simp; omega
  · cases e
    obtain ⟨a, vs, rfl, ha, ra, _⟩ := RepC.lst h
    exact ⟨rfl, .inl ⟨vs, .of ha, ra.isEmpty⟩⟩
  · cases e
    obtain ⟨a, vs, rfl, ha, ra, _⟩ := RepC.tup z h
    exact ⟨rfl, .inr (.inl ⟨vs, ha, ra.isEmpty⟩)⟩
  · cases e
end
end CC
end

section
/-! CcS7: expressions, one rule a construct. -/
namespace CC
open PySem PySem.Spec PyProof.Rows
open L2 (V HO Hp upd SqL SqT Vals upd_same upd_ne ne_of_none TE TT TA TS TI TG VK PE PT PW PA PS PSs PG PI Ends It OpR CallR MtR IxR SlR)
abbrev WE (X : L2.Cx) (T : Tab) (Fr : Nat → Addr → Prop) (e : Expr) (f : EF) : Prop := PE X e (RdE X.K T Fr f)
abbrev WT (X : L2.Cx) (T : Tab) (Fr : Nat → Addr → Prop) (e : Expr) (f : BF) : Prop := PT X e (RdT X.K T Fr f)
abbrev WA (X : L2.Cx) (T : Tab) (Fr : Nat → Addr → Prop) (e : List Expr) (f : AF) : Prop := PA X e (RdA X.K T Fr f)
abbrev WP (X : L2.Cx) (T : Tab) (Fr : Nat → Addr → Prop) (e : List Expr) (f : AF) : Prop := PA X e (RdAP X.K T Fr f)
theorem kpb {β : Type} {r : Rr} {S S' : Sto} {f : D → Sto → Res β} {b : β} (h : (kp r S).bind f = .ok b S') : r.1 ≠ .pk ∧ f r.2 S = .ok b S' := by
  obtain ⟨t, x⟩ := r
  cases t
  · exact ⟨by simp, h⟩
  · exact ⟨by simp, h⟩
  · cases h
theorem kp_inv {r : Rr} {d : D} {S S' : Sto} (h : kp r S = .ok d S') : r.1 ≠ .pk ∧ d = r.2 ∧ S' = S := by
  obtain ⟨t, x⟩ := r
  cases t
  · cases h; exact ⟨by simp, rfl, rfl⟩
  · cases h; exact ⟨by simp, rfl, rfl⟩
  · cases h
section
variable {X : L2.Cx} {T : Tab} {Fr : Nat → Addr → Prop} {a b c : Expr} {es : List Expr} {pos : Pos} {fa fb fc f : EF} {as : AF} {σ : L2.St} {H : Hp} {Q : VK}
/-- a constant value -/
theorem w_val {e : Expr} {d : D} {v : V} (h : PE X e (L2.tC v)) (hr : ∀ I A, Rep X.K T I A d v) : WE X T Fr e (eC d) :=
  PE.weak h fun σ H Q h => by
    obtain ⟨ρ, S, I, A, z, sl, r, S', e, k⟩ := h
    obtain ⟨rfl, rfl⟩ := okS_inv e
    exact k v H I A .refl z (hr I A)
theorem w_int {i : Int} {j : Nat} : WE X T Fr (.Constant (.int i) j pos) (eC (.int i)) := w_val L2.pe_int fun _ _ => rfl
theorem w_bl {i : Bool} {j : Nat} : WE X T Fr (.Constant (.bool i) j pos) (eC (.bl i)) := w_val L2.pe_bl fun _ _ => rfl
theorem w_str {i : Str} {j : Nat} : WE X T Fr (.Constant (.str i) j pos) (eC (.str i)) := w_val L2.pe_str fun _ _ => rfl
theorem w_non {j : Nat} : WE X T Fr (.Constant .none j pos) (eC .non) := w_val L2.pe_non fun _ _ => rfl
theorem w_gint {x : Str} {i : Int} (hm : ∃ t, X.mg x = some (.int i t)) (hg : L2.Gl X x := by rfl) (hd : (x == Str.ofString "__debug__") = false := by rfl) : WE X T Fr (.Name x pos) (eC (.int i)) := by
  obtain ⟨t, hm⟩ := hm
  exact w_val (v := .int i) (L2.pe_glob hg hm ⟨_, rfl⟩ hd) fun _ _ => rfl
theorem w_gstr {x i : Str} (hm : ∃ t, X.mg x = some (.str i t)) (hg : L2.Gl X x := by rfl) (hd : (x == Str.ofString "__debug__") = false := by rfl) : WE X T Fr (.Name x pos) (eC (.str i)) := by
  obtain ⟨t, hm⟩ := hm
  exact w_val (v := .str i) (L2.pe_glob hg hm ⟨_, rfl⟩ hd) fun _ _ => rfl
theorem w_var {m : Bool} {i : Nat} {x : Str} (h : PE X (.Name x pos) (L2.tVar i)) : WE X T Fr (.Name x pos) (eV m i) :=
  PE.weak h fun σ H Q h => by
    obtain ⟨ρ, S, I, A, z, sl, r, S', e, k⟩ := h
    have e : lookR m i ρ S = .ok r S' := e
    unfold lookR at e
    split at e
    · rename_i d hd
      cases e
      obtain ⟨v, e1, rv⟩ := sl.sh i d (by simp) hd
      exact ⟨v, e1, k v H I A .refl z rv⟩
    · rename_i d hd
      obtain ⟨_, e⟩ := if_inv e
      cases e
      obtain ⟨a, e1, hI, hA, hF, o⟩ := sl.ow i d (by simp) hd
      exact ⟨_, e1, k _ H I A .refl z (o.content hA)⟩
    · cases e
theorem w_bin {op : Op} (ha : WE X T Fr a fa) (hb : WE X T Fr b fb) : WE X T Fr (.BinOp a (opOf op) b pos) (eBin op fa fb) :=
  PE.weak (L2.pe_op (op_bin op) (peP ha) (peP hb)) fun _ _ _ h => comb2 (good_bin op) h
theorem w_one {rr : V → Hp → VK → Prop} {g : D → Sto → Res Rr} {e : Expr} (hg : Good1 X.K T rr g) (h : PE X e fun σ H Q => RdP X.K T Fr fa σ H fun x H1 => rr x H1 Q) : WE X T Fr e (e1 g fa) :=
  PE.weak h fun _ _ _ h => comb1 hg h
theorem good_neg {K : PySem.W.Frag} : Good1 K T (L2.rU fun i => .int (-i)) negR := by
  intro H S I A x dx Q p S' z rx e k
  unfold negR at e
  split at e
  · rename_i i
    obtain ⟨rfl, rfl⟩ := okS_inv e
    exact ⟨i, rx, end_val z (d := .int (-i)) rfl k⟩
  · cases e
theorem w_neg (ha : WE X T Fr a fa) : WE X T Fr (.UnaryOp .USub a pos) (eNeg fa) := w_one good_neg (L2.pe_un L2.un_neg (peP ha))
theorem w_not (ha : WE X T Fr a fa) : WE X T Fr (.UnaryOp .Not a pos) (eNot fa) :=
  w_one (rr := fun x H Q => ∃ k, L2.TruV X.K x H k ∧ Q (.bl (!k)) H) (by
    intro H S I A x dx Q p S' z rx e k
    obtain ⟨b, S1, e1, e⟩ := Res.bind_eq_ok e
    obtain ⟨rfl, rfl⟩ := okS_inv e
    obtain ⟨rfl, tr⟩ := truth_ok z rx e1
    exact ⟨b, tr, end_val z (d := .bl (!b)) rfl k⟩) (L2.pe_notT (peP ha))
/-- a comparison's reading -/
theorem comb2C {K : PySem.W.Frag} {r : V → V → Hp → VK → Prop} {g : D → D → Sto → Res D} (hg : GoodC K T r g)
    (h : RdE K T Fr (fun ρ S => (fa ρ S).bind fun x S => (fb ρ S).bind fun y S => (g x.2 y.2 S).bind fun d S => okS d S) σ H Q) (hb : ∀ a b S p S', g a b S = .ok p S' → ∃ k, p = .bl k) : L2.tOp r (RdP K T Fr fa) (RdP K T Fr fb) σ H Q := by
  obtain ⟨ρ, S, I, A, z, sl, p, S', e, k⟩ := h
  obtain ⟨x, S1, e1, e⟩ := Res.bind_eq_ok e
  obtain ⟨y, S2, e2, e⟩ := Res.bind_eq_ok e
  obtain ⟨d, S3, e3, e⟩ := Res.bind_eq_ok e
  obtain ⟨rfl, rfl⟩ := okS_inv e
  refine ⟨ρ, S, I, A, z, sl, x, S1, e1, fun v H1 I1 A1 s1 z1 r1 => ⟨ρ, S1, I1, A1, z1, sl.step s1, y, S2, e2, fun w H2 I2 A2 s2 z2 r2 => ?_⟩⟩
  refine hg H2 S2 I2 A2 v w x.2 y.2 Q d S' z2 (r1.step s2) r2 e3 fun H' I' A' kk ek s3 z3 => ?_
  subst ek
  exact k (.bl kk) H' I' A' ((s1.trans s2).trans s3) z3 rfl
theorem ite_ok {α : Type} {c : Prop} [Decidable c] {a : α} {S S' : Sto} {p : α} (h : (if c then Res.ok a S else .bad) = .ok p S') : p = a := by
  obtain ⟨_, h⟩ := if_inv h
  cases h; rfl
theorem cmp_bl : ∀ (op : Cp) (a b : D) (S : Sto) (p : D) (S' : Sto), cmpR op a b S = .ok p S' → ∃ k, p = .bl k := by
  intro op a b S p S' h
  cases op <;> simp only [cmpR] at h
  case eq => unfold eqR at h; split at h; · cases h; exact ⟨_, rfl⟩
             · exact ⟨_, ite_ok h⟩
  case ne => unfold eqR at h; split at h; · cases h; exact ⟨_, rfl⟩
             · exact ⟨_, ite_ok h⟩
  case lt =>
    unfold ltR at h; split at h
    · cases h; exact ⟨_, rfl⟩
    · split at h
      · cases h
      · split at h
        · cases h; exact ⟨_, rfl⟩
        · cases h
    · cases h
  case gt =>
    unfold ltR at h; split at h
    · cases h; exact ⟨_, rfl⟩
    · split at h
      · cases h
      · split at h
        · cases h; exact ⟨_, rfl⟩
        · cases h
    · cases h
  case le => unfold leR at h; split at h; · cases h; exact ⟨_, rfl⟩
             · cases h
  case ge => unfold leR at h; split at h; · cases h; exact ⟨_, rfl⟩
             · cases h
  case is_ => unfold isR at h; split at h; · cases h; exact ⟨_, rfl⟩
              · cases h
  case isnot => unfold isR at h; split at h; · cases h; exact ⟨_, rfl⟩
                · cases h
  case in_ => unfold inR at h; split at h; · exact ⟨_, ite_ok h⟩
              · exact ⟨_, ite_ok h⟩
              · cases h
  case notin => unfold inR at h; split at h; · exact ⟨_, ite_ok h⟩
                · exact ⟨_, ite_ok h⟩
                · cases h
theorem w_cmp {op : Cp} (hu : X.A.units + 65 < cLine) (ha : WE X T Fr a fa) (hb : WE X T Fr b fb) (hm : behindInMarks (cpOf op) b = false := by rfl) :
    WE X T Fr (.Compare a [cpOf op] [b] pos) (eCmp op fa fb) :=
  PE.weak (L2.pe_cmpR (op_cmp hu op) (peP ha) (peP hb) hm) fun _ _ _ h => comb2C (good_cmp op) h (cmp_bl op)
theorem w_chn {op op' : Cp} (hu : X.A.units + 65 < cLine) (ha : WE X T Fr a fa) (hb : WE X T Fr b fb) (hc : WE X T Fr c fc) (hm : lastMarks [cpOf op, cpOf op'] [b, c] = false := by rfl) :
    WE X T Fr (.Compare a [cpOf op, cpOf op'] [b, c] pos) (eChn op op' fa fb fc) :=
  PE.weak (L2.pe_chain (op_cmp hu op) (op_cmp hu op') (peP ha) (peP hb) (peP hc) hm) fun σ H Q h => by
    obtain ⟨ρ, S, I, A, z, sl, p, S', e, k⟩ := h
    obtain ⟨x, S1, e1, e⟩ := Res.bind_eq_ok e
    obtain ⟨y, S2, e2, e⟩ := Res.bind_eq_ok e
    obtain ⟨d, S3, e3, e⟩ := Res.bind_eq_ok e
    refine ⟨ρ, S, I, A, z, sl, x, S1, e1, fun v H1 I1 A1 s1 z1 r1 => ⟨ρ, S1, I1, A1, z1, sl.step s1, y, S2, e2, fun w H2 I2 A2 s2 z2 r2 => ?_⟩⟩
    refine good_cmp op H2 S2 I2 A2 v w x.2 y.2 _ d S3 z2 (r1.step s2) r2 e3 fun H3 I3 A3 kk ek s3 z3 => ?_
    subst ek
    refine ⟨kk, rfl, ?_⟩
    cases kk with
    | false =>
      obtain ⟨rfl, rfl⟩ := okS_inv e
      exact L2.iteF (k (.bl false) H3 I3 A3 ((s1.trans s2).trans s3) z3 rfl)
    | true =>
      obtain ⟨zz, S4, e4, e⟩ := Res.bind_eq_ok e
      obtain ⟨d5, S5, e5, e⟩ := Res.bind_eq_ok e
      obtain ⟨rfl, rfl⟩ := okS_inv e
      refine L2.iteT ⟨ρ, S3, I3, A3, z3, sl.step ((s1.trans s2).trans s3), zz, S4, e4, fun u H4 I4 A4 s4 z4 r4 => ?_⟩
      refine good_cmp op' H4 S4 I4 A4 w u y.2 zz.2 _ d5 S' z4 ((r2.step s3).step s4) r4 e5 fun H5 I5 A5 k5 ek s5 z5 => ?_
      subst ek
      exact k (.bl k5) H5 I5 A5 ((((s1.trans s2).trans s3).trans s4).trans s5) z5 rfl
theorem w_and {rest : List Expr} (ha : WE X T Fr a fa) (hb : WE X T Fr (.BoolOp .And (b :: rest) pos) fb) : WE X T Fr (.BoolOp .And (a :: b :: rest) pos) (eAnd fa fb) :=
  PE.weak (L2.pe_andT (peV ha) hb) fun σ H Q h => by
    obtain ⟨ρ, S, I, A, z, sl, p, S', e, k⟩ := h
    obtain ⟨x, S1, e1, e⟩ := Res.bind_eq_ok e
    obtain ⟨np, e⟩ := kpb e
    obtain ⟨q, S3, e3, e⟩ := Res.bind_eq_ok e
    refine ⟨ρ, S, I, A, z, sl, x, _, e1, np, fun v H1 I1 A1 s1 z1 r1 => ?_⟩
    obtain ⟨rfl, tr⟩ := truth_ok z1 (r1.content z1) e3
    refine ⟨q, tr, ?_⟩
    cases q with
    | true => exact L2.iteT ⟨ρ, _, I1, A1, z1, sl.step s1, p, S', e, chainE s1 k⟩
    | false =>
      obtain ⟨rfl, rfl⟩ := okS_inv (show okS x.2 _ = _ from e)
      exact L2.iteF (k v H1 I1 A1 s1 z1 r1)
theorem w_or {rest : List Expr} (ha : WE X T Fr a fa) (hb : WE X T Fr (.BoolOp .Or (b :: rest) pos) fb) : WE X T Fr (.BoolOp .Or (a :: b :: rest) pos) (eOr fa fb) :=
  PE.weak (L2.pe_orT (peV ha) hb) fun σ H Q h => by
    obtain ⟨ρ, S, I, A, z, sl, p, S', e, k⟩ := h
    obtain ⟨x, S1, e1, e⟩ := Res.bind_eq_ok e
    obtain ⟨np, e⟩ := kpb e
    obtain ⟨q, S3, e3, e⟩ := Res.bind_eq_ok e
    refine ⟨ρ, S, I, A, z, sl, x, _, e1, np, fun v H1 I1 A1 s1 z1 r1 => ?_⟩
    obtain ⟨rfl, tr⟩ := truth_ok z1 (r1.content z1) e3
    refine ⟨q, tr, ?_⟩
    cases q with
    | false => exact L2.iteF ⟨ρ, _, I1, A1, z1, sl.step s1, p, S', e, chainE s1 k⟩
    | true =>
      obtain ⟨rfl, rfl⟩ := okS_inv (show okS x.2 _ = _ from e)
      exact L2.iteT (k v H1 I1 A1 s1 z1 r1)
theorem w_one1 {op : BoolOp} (ha : WE X T Fr a fa) : WE X T Fr (.BoolOp op [a] pos) fa := L2.pe_one ha
theorem w_if {t : BF} (hc : WT X T Fr c t) (ha : WE X T Fr a fa) (hb : WE X T Fr b fb) : WE X T Fr (.IfExp c a b pos) (eIf t fa fb) :=
  PE.weak (L2.pe_ifExp hc ha hb) fun σ H Q h => by
    obtain ⟨ρ, S, I, A, z, sl, p, S', e, k⟩ := h
    obtain ⟨x, S1, e1, e⟩ := Res.bind_eq_ok e
    refine ⟨ρ, S, I, A, z, sl, x, S1, e1, fun H1 I1 A1 s1 z1 => ?_⟩
    cases x with
    | true => exact L2.iteT ⟨ρ, S1, I1, A1, z1, sl.step s1, p, S', e, chainE s1 k⟩
    | false => exact L2.iteF ⟨ρ, S1, I1, A1, z1, sl.step s1, p, S', e, chainE s1 k⟩
/-! ### arguments -/
theorem w_aNil : WA X T Fr [] aNil := PA.weak L2.pa_nil fun σ H Q h => by
  obtain ⟨ρ, S, I, A, z, sl, p, S', e, k⟩ := h
  cases e
  exact k [] H I A .refl z rfl
theorem w_aCons (ha : WE X T Fr a fa) (hr : WA X T Fr es as) (hs : starEach (a :: es) X.env = (false, eval a X.env) :: starEach es X.env := by rfl) : WA X T Fr (a :: es) (aCons fa as) :=
  PA.weak (L2.pa_cons (peV ha) hr hs) fun σ H Q h => by
    obtain ⟨ρ, S, I, A, z, sl, p, S', e, k⟩ := h
    obtain ⟨x, S1, e1, e⟩ := Res.bind_eq_ok e
    obtain ⟨np, e⟩ := kpb e
    obtain ⟨xs, S3, e3, e⟩ := Res.bind_eq_ok e
    cases e
    exact ⟨ρ, S, I, A, z, sl, x, _, e1, np, fun v H1 I1 A1 s1 z1 r1 => ⟨ρ, _, I1, A1, z1, sl.step s1, xs, _, e3, fun vs H2 I2 A2 s2 z2 r2 => k _ H2 I2 A2 (s1.trans s2) z2 ⟨v, vs, rfl, r1.step s2, r2⟩⟩⟩
theorem w_aStar {p : Pos} (ha : WE X T Fr a fa) (hr : WA X T Fr es as) (hs : starEach (.Starred a p :: es) X.env = (true, eval a X.env) :: starEach es X.env := by rfl) : WA X T Fr (.Starred a p :: es) (aStar fa as) :=
  PA.weak (StX.pa_star (peP ha) hr hs) fun σ H Q h => by
    obtain ⟨ρ, S, I, A, z, sl, p, S', e, k⟩ := h
    obtain ⟨x, S1, e1, e⟩ := Res.bind_eq_ok e
    obtain ⟨t, d⟩ := x
    refine ⟨ρ, S, I, A, z, sl, (t, d), S1, e1, fun v H1 I1 A1 s1 z1 r1 => ?_⟩
    have r1 : RepC X.K T H1 I1 A1 d v := r1
    cases d with
    | lst ds =>
      obtain ⟨xs, S3, e3, e⟩ := Res.bind_eq_ok e
      cases e
      obtain ⟨q, vs, rfl, hq, rq, _⟩ := RepC.lst r1
      exact ⟨q, vs, rfl, .inr (.of hq), ρ, S1, I1, A1, z1, sl.step s1, xs, _, e3, fun ws H2 I2 A2 s2 z2 r2 => k _ H2 I2 A2 (s1.trans s2) z2 ((rq.step s2).append r2)⟩
    | tup ds =>
      obtain ⟨xs, S3, e3, e⟩ := Res.bind_eq_ok e
      cases e
      obtain ⟨q, vs, rfl, hq, rq, _⟩ := RepC.tup z1 r1
      exact ⟨q, vs, rfl, .inl hq, ρ, S1, I1, A1, z1, sl.step s1, xs, _, e3, fun ws H2 I2 A2 s2 z2 r2 => k _ H2 I2 A2 (s1.trans s2) z2 ((rq.step s2).append r2)⟩
    | _ => cases e
theorem w_pNil : WP X T Fr [] aNil := PA.weak L2.pa_nil fun σ H Q h => by
  obtain ⟨ρ, S, I, A, z, sl, p, S', e, k⟩ := h
  cases e
  exact k [] H I A .refl z rfl
theorem w_pCons (ha : WE X T Fr a fa) (hr : WP X T Fr es as) (hs : starEach (a :: es) X.env = (false, eval a X.env) :: starEach es X.env := by rfl) : WP X T Fr (a :: es) (pCons fa as) :=
  PA.weak (L2.pa_cons (peP ha) hr hs) fun σ H Q h => by
    obtain ⟨ρ, S, I, A, z, sl, p, S', e, k⟩ := h
    obtain ⟨x, S1, e1, e⟩ := Res.bind_eq_ok e
    obtain ⟨xs, S3, e3, e⟩ := Res.bind_eq_ok e
    cases e
    exact ⟨ρ, S, I, A, z, sl, x, _, e1, fun v H1 I1 A1 s1 z1 r1 => ⟨ρ, _, I1, A1, z1, sl.step s1, xs, _, e3, fun vs H2 I2 A2 s2 z2 r2 => k _ H2 I2 A2 (s1.trans s2) z2 ⟨v, vs, rfl, r1.step s2, r2⟩⟩⟩
theorem w_tup {kk : Nat} (ha : WA X T Fr es as) : WE X T Fr (.Tuple es kk pos) (eTup as) :=
  PE.weak (L2.pe_tup ha) fun σ H Q h => by
    obtain ⟨ρ, S, I, A, z, sl, p, S', e, k⟩ := h
    obtain ⟨xs, S1, e1, e⟩ := Res.bind_eq_ok e
    obtain ⟨hl, e⟩ := if_inv e
    obtain ⟨rfl, rfl⟩ := okS_inv e
    exact ⟨ρ, S, I, A, z, sl, xs, _, e1, fun vs H1 I1 A1 s1 z1 r1 => ⟨by rw [r1.length, ← szE]; exact hl, fun q hq => end_tup z1 r1 (chainE s1 k) hq⟩⟩
theorem w_lst (ha : WA X T Fr es as) : WE X T Fr (.List es pos) (eLst as) :=
  PE.weak (L2.pe_lst ha) fun σ H Q h => by
    obtain ⟨ρ, S, I, A, z, sl, p, S', e, k⟩ := h
    obtain ⟨xs, S1, e1, e⟩ := Res.bind_eq_ok e
    obtain ⟨hl, e⟩ := if_inv e
    obtain ⟨rfl, rfl⟩ := okO_inv e
    exact ⟨ρ, S, I, A, z, sl, xs, _, e1, fun vs H1 I1 A1 s1 z1 r1 => ⟨by rw [r1.length, ← szE]; exact hl, fun q hq => end_lst z1 r1 (chainE s1 k) hq⟩⟩
/-- a new cell -/
theorem St0.newC {K : PySem.W.Frag} {H I : Hp} {A : List Addr} {S : Sto} (z : St0 K T H S I A) {p : Addr} (hp : H p = none) {ds : List D} {vs : List V} (r : Reps K T I A ds vs) :
    Step H I A (upd H p (.lst vs)) I (A ++ [p]) ∧ St0 K T (upd H p (.lst vs)) (S ++ [.lst ds]) I (A ++ [p]) := by
  obtain ⟨hI, hA⟩ := z.free hp
  obtain ⟨s, z2⟩ := z.newO hp (.lst vs)
  have gA : ∀ (k : Nat) (a : Addr), A[k]? = some a → (A ++ [p])[k]? = some a := fun k a e => by
    rw [List.getElem?_append_left (List.getElem?_eq_some_iff.mp e).1]; exact e
  refine ⟨⟨s.ext, s.dom, s.imm, s.new, [p], rfl, fun a h => by rw [List.mem_singleton.mp h]; exact hp⟩, ⟨z2.sub, by rw [List.length_append, List.length_append, z.len]; rfl, ?_, fun k a d h1 h2 => ?_⟩⟩
  · rw [List.nodup_append]
    refine ⟨z.nd, by simp, fun a ha b hb => ?_⟩
    rw [List.mem_singleton.mp hb]
    exact fun e => hA (e ▸ ha)
  · by_cases hk : k < A.length
    · rw [List.getElem?_append_left hk] at h1
      rw [List.getElem?_append_left (by rw [← z.len]; exact hk)] at h2
      obtain ⟨q1, ds', vs', q2, q3, q4⟩ := z2.cel k a d h1 h2
      exact ⟨q1, ds', vs', q2, q3, Reps.mono (fun _ _ e => e) gA _ _ q4⟩
    · have hk2 : k = A.length := by
        have := (List.getElem?_eq_some_iff.mp h1).1
        rw [List.length_append] at this
        have e1 : [p].length = 1 := rfl
        omega
      subst hk2
      rw [List.getElem?_append_right (Nat.le_refl _), Nat.sub_self] at h1
      rw [z.len, List.getElem?_append_right (Nat.le_refl _), Nat.sub_self] at h2
      cases h1; cases h2
      exact ⟨hI, ds, vs, rfl, upd_same, Reps.mono (fun _ _ e => e) gA _ _ r⟩
theorem w_cell (ha : WA X T Fr es as) : WE X T Fr (.List es pos) (eCell as) :=
  PE.weak (L2.pe_lst ha) fun σ H Q h => by
    obtain ⟨ρ, S, I, A, z, sl, p, S', e, k⟩ := h
    obtain ⟨xs, S1, e1, e⟩ := Res.bind_eq_ok e
    obtain ⟨hl, e⟩ := if_inv e
    cases e
    refine ⟨ρ, S, I, A, z, sl, xs, _, e1, fun vs H1 I1 A1 s1 z1 r1 => ⟨by rw [r1.length, ← szE]; exact hl, fun q hq => ?_⟩⟩
    obtain ⟨s2, z2⟩ := z1.newC hq r1
    refine k _ _ _ _ (s1.trans s2) z2 ⟨q, rfl, ?_⟩
    rw [← z1.len, List.getElem?_append_right (Nat.le_refl _), Nat.sub_self]; rfl
theorem w_ix (ha : WE X T Fr a fa) (hb : WE X T Fr b fb) (hp : L2.PlainIx b := by exact fun _ _ => rfl) : WE X T Fr (.Subscript a b pos) (eIx fa fb) :=
  PE.weak (L2.pe_ix L2.ix_seq (peP ha) (peP hb) hp) fun _ _ _ h => comb2 good_ix h
/-! slices -/
def RdO (K : PySem.W.Frag) (T : Tab) (Fr : Nat → Addr → Prop) (f : OF) : L2.TO := fun σ H Q => ∃ ρ S I A, St0 K T H S I A ∧ Slots K T Fr H I A [] ρ σ ∧ ∃ r S', f ρ S = .ok r S' ∧
  ∀ H' I' A', Step H I A H' I' A' → St0 K T H' S' I' A' → Q r H'
abbrev WO (X : L2.Cx) (T : Tab) (Fr : Nat → Addr → Prop) (e : Option Expr) (f : OF) : Prop := L2.PO X e (RdO X.K T Fr f)
theorem PO.weak {X : L2.Cx} {e : Option Expr} {t t' : L2.TO} (h : L2.PO X e t) (hw : ∀ σ H Q, t' σ H Q → t σ H Q) : L2.PO X e t' := ⟨fun pins s σ H Q I q => h.run pins s σ H Q I (hw σ H Q q)⟩
theorem w_oNo : WO X T Fr none oNo := PO.weak L2.po_none fun σ H Q h => by
  obtain ⟨ρ, S, I, A, z, sl, p, S', e, k⟩ := h
  cases e
  exact k H I A .refl z
theorem w_oE (ha : WE X T Fr a fa) : WO X T Fr (some a) (oE fa) := PO.weak (L2.po_some (peP ha)) fun σ H Q h => by
  obtain ⟨ρ, S, I, A, z, sl, p, S', e, k⟩ := h
  obtain ⟨x, S1, e1, e⟩ := Res.bind_eq_ok e
  obtain ⟨t, d⟩ := x
  refine ⟨ρ, S, I, A, z, sl, (t, d), S1, e1, fun v H1 I1 A1 s1 z1 r1 => ?_⟩
  have r1 : RepC X.K T H1 I1 A1 d v := r1
  cases d with
  | int i => cases e; exact ⟨i, r1, k H1 I1 A1 s1 z1⟩
  | _ => cases e
theorem w_sl {lo hi : Option Expr} {fl fh : OF} {p2 : Pos} (ha : WE X T Fr a fa) (hl : WO X T Fr lo fl) (hh : WO X T Fr hi fh) : WE X T Fr (.Subscript a (.Slice lo hi none p2) pos) (eSl fa fl fh) :=
  PE.weak (L2.pe_slice sl_X (peP ha) hl hh) fun σ H Q h => by
    obtain ⟨ρ, S, I, A, z, sl, p, S', e, k⟩ := h
    obtain ⟨x, S1, e1, e⟩ := Res.bind_eq_ok e
    obtain ⟨l, S2, e2, e⟩ := Res.bind_eq_ok e
    obtain ⟨u, S3, e3, e⟩ := Res.bind_eq_ok e
    exact ⟨ρ, S, I, A, z, sl, x, S1, e1, fun v H1 I1 A1 s1 z1 r1 => ⟨ρ, S1, I1, A1, z1, sl.step s1, l, S2, e2, fun H2 I2 A2 s2 z2 => ⟨ρ, S2, I2, A2, z2, sl.step (s1.trans s2), u, S3, e3, fun H3 I3 A3 s3 z3 =>
      good_sl H3 S3 I3 A3 v x.2 l u Q p S' z3 ((r1.step s2).step s3) e (chainE ((s1.trans s2).trans s3) k)⟩⟩⟩
theorem w_rev {kk : Nat} {p1 p2 p3 : Pos} (ha : WE X T Fr a fa) : WE X T Fr (.Subscript a (.Slice none none (some (.UnaryOp .USub (.Constant (.int 1) kk p1) p2)) p3) pos) (eRev fa) :=
  w_one (rr := fun x H Q => ∃ a xs, x = V.ref a ∧ SqL X.K H a xs ∧ ∀ p, H p = none → Q (.ref p) (upd H p (.lst xs.reverse))) (by
    intro H S I A x dx Q p S' z rx e k
    unfold revR at e
    split at e
    · obtain ⟨rfl, rfl⟩ := okO_inv e
      obtain ⟨a, vs, rfl, ha, ra, _⟩ := RepC.lst rx
      exact ⟨a, vs, rfl, .of ha, fun q hq => end_lst z ra.reverse k hq⟩
    · cases e) (L2.pe_revL (peP ha))
end
end CC
end

section
/-! CcS8: tests; attributes; calls. -/
namespace CC
open PySem PySem.Spec PyProof.Rows
open L2 (V HO Hp upd SqL SqT Vals upd_same upd_ne ne_of_none TE TT TA TS TI TG VK PE PT PW PA PS PSs PG PI Ends It OpR CallR MtR IxR SlR)
section
variable {X : L2.Cx} {T : Tab} {Fr : Nat → Addr → Prop} {a b c : Expr} {es : List Expr} {pos : Pos} {fa fb fc f : EF} {as : AF} {σ : L2.St} {H : Hp} {Q : VK}
/-! ### tests -/
theorem w_tT (ha : WE X T Fr a fa) (he : ∀ whole, isTrue a X.env whole = (do let v ← whole; standAt a.pos; holding [v] (truthy v)) := by exact fun _ => rfl) : WT X T Fr a (tT fa) :=
  PT.weak (L2.pt_truth (peP ha) he) fun σ H Q h => by
    obtain ⟨ρ, S, I, A, z, sl, p, S', e, k⟩ := h
    obtain ⟨x, S1, e1, e⟩ := Res.bind_eq_ok e
    refine ⟨ρ, S, I, A, z, sl, x, S1, e1, fun v H1 I1 A1 s1 z1 r1 => ?_⟩
    obtain ⟨rfl, tr⟩ := truth_ok z1 r1 e
    exact ⟨p, tr, k H1 I1 A1 s1 z1⟩
theorem w_tCmp {op : Cp} (hu : X.A.units + 65 < cLine) (ha : WE X T Fr a fa) (hb : WE X T Fr b fb) (hm : behindInMarks (cpOf op) b = false := by rfl) :
    WT X T Fr (.Compare a [cpOf op] [b] pos) (tT (eCmp op fa fb)) :=
  PT.weak (L2.pt_cmpR (op_cmp hu op) (peP ha) (peP hb) hm) fun σ H Q h => by
    obtain ⟨ρ, S, I, A, z, sl, p, S', e, k⟩ := h
    obtain ⟨r, S3, e0, e'⟩ := Res.bind_eq_ok e
    refine comb2C (good_cmp op) (Q := fun x H' => ∃ k, x = .bl k ∧ Q k H') ⟨ρ, S, I, A, z, sl, r, S3, e0, fun v H' I' A' s' z' t => ?_⟩ (cmp_bl op)
    obtain ⟨x, S1, e1, e0⟩ := Res.bind_eq_ok e0
    obtain ⟨y, S2, e2, e0⟩ := Res.bind_eq_ok e0
    obtain ⟨d, S4, e3, e0⟩ := Res.bind_eq_ok e0
    obtain ⟨rfl, rfl⟩ := okS_inv e0
    obtain ⟨kk, rfl⟩ := cmp_bl op _ _ _ _ _ e3
    obtain rfl : v = .bl kk := t
    cases e'
    exact ⟨_, rfl, k H' I' A' s' z'⟩
theorem w_tChn {op op' : Cp} (hu : X.A.units + 65 < cLine) (ha : WE X T Fr a fa) (hb : WE X T Fr b fb) (hc : WE X T Fr c fc) (hm : lastMarks [cpOf op, cpOf op'] [b, c] = false := by rfl) :
    WT X T Fr (.Compare a [cpOf op, cpOf op'] [b, c] pos) (tT (eChn op op' fa fb fc)) :=
  PT.weak (L2.pt_chain (op_cmp hu op) (op_cmp hu op') (peP ha) (peP hb) (peP hc) hm) fun σ H Q h => by
    obtain ⟨ρ, S, I, A, z, sl, p, S', e, k⟩ := h
    obtain ⟨r, S9, e0, e'⟩ := Res.bind_eq_ok e
    obtain ⟨x, S1, e1, e0⟩ := Res.bind_eq_ok e0
    obtain ⟨y, S2, e2, e0⟩ := Res.bind_eq_ok e0
    obtain ⟨d, S3, e3, e0⟩ := Res.bind_eq_ok e0
    refine ⟨ρ, S, I, A, z, sl, x, S1, e1, fun v H1 I1 A1 s1 z1 r1 => ⟨ρ, S1, I1, A1, z1, sl.step s1, y, S2, e2, fun w H2 I2 A2 s2 z2 r2 => ?_⟩⟩
    refine good_cmp op H2 S2 I2 A2 v w x.2 y.2 _ d S3 z2 (r1.step s2) r2 e3 fun H3 I3 A3 kk ek s3 z3 => ?_
    subst ek
    refine ⟨kk, rfl, ?_⟩
    cases kk with
    | false =>
      obtain ⟨rfl, rfl⟩ := okS_inv e0
      cases e'
      exact L2.iteF ⟨_, rfl, k H3 I3 A3 ((s1.trans s2).trans s3) z3⟩
    | true =>
      obtain ⟨zz, S4, e4, e0⟩ := Res.bind_eq_ok e0
      obtain ⟨d5, S5, e5, e0⟩ := Res.bind_eq_ok e0
      obtain ⟨rfl, rfl⟩ := okS_inv e0
      refine L2.iteT ⟨ρ, S3, I3, A3, z3, sl.step ((s1.trans s2).trans s3), zz, S4, e4, fun u H4 I4 A4 s4 z4 r4 => ?_⟩
      refine good_cmp op' H4 S4 I4 A4 w u y.2 zz.2 _ d5 S9 z4 ((r2.step s3).step s4) r4 e5 fun H5 I5 A5 k5 ek s5 z5 => ?_
      subst ek
      cases e'
      exact ⟨_, rfl, k H5 I5 A5 ((((s1.trans s2).trans s3).trans s4).trans s5) z5⟩
theorem w_tNot {g : BF} (h : WT X T Fr a g) : WT X T Fr (.UnaryOp .Not a pos) (tNot g) :=
  PT.weak (L2.pt_not h) fun σ H Q h => by
    obtain ⟨ρ, S, I, A, z, sl, p, S', e, k⟩ := h
    obtain ⟨b, S1, e1, e⟩ := Res.bind_eq_ok e
    cases e
    exact ⟨ρ, S, I, A, z, sl, b, _, e1, fun H1 I1 A1 s1 z1 => k H1 I1 A1 s1 z1⟩
abbrev WW (X : L2.Cx) (T : Tab) (Fr : Nat → Addr → Prop) (e : Expr) (f : BF) : Prop := PW X e (RdT X.K T Fr f)
theorem w_tW {g : BF} (h : WW X T Fr a g) : WT X T Fr a g := L2.PW.pt h
theorem w_tAnd1 {g : BF} (h : WT X T Fr a g) : WW X T Fr (.BoolOp .And [a] pos) g := L2.pw_and1 h
theorem w_tOr1 {g : BF} (h : WT X T Fr a g) : WW X T Fr (.BoolOp .Or [a] pos) g := L2.pw_or1 h
theorem w_tAnd {rest : List Expr} {g g' : BF} (ha : WT X T Fr a g) (hb : WW X T Fr (.BoolOp .And (b :: rest) pos) g') : WW X T Fr (.BoolOp .And (a :: b :: rest) pos) (tAnd g g') :=
  PW.weak (L2.pw_and ha hb) fun σ H Q h => by
    obtain ⟨ρ, S, I, A, z, sl, p, S', e, k⟩ := h
    obtain ⟨q, S1, e1, e⟩ := Res.bind_eq_ok e
    refine ⟨ρ, S, I, A, z, sl, q, S1, e1, fun H1 I1 A1 s1 z1 => ?_⟩
    cases q with
    | true => exact L2.iteT ⟨ρ, S1, I1, A1, z1, sl.step s1, p, S', e, fun H2 I2 A2 s2 z2 => k H2 I2 A2 (s1.trans s2) z2⟩
    | false => cases e; exact L2.iteF (k H1 I1 A1 s1 z1)
theorem w_tOr {rest : List Expr} {g g' : BF} (ha : WT X T Fr a g) (hb : WW X T Fr (.BoolOp .Or (b :: rest) pos) g') : WW X T Fr (.BoolOp .Or (a :: b :: rest) pos) (tOr g g') :=
  PW.weak (L2.pw_or ha hb) fun σ H Q h => by
    obtain ⟨ρ, S, I, A, z, sl, p, S', e, k⟩ := h
    obtain ⟨q, S1, e1, e⟩ := Res.bind_eq_ok e
    refine ⟨ρ, S, I, A, z, sl, q, S1, e1, fun H1 I1 A1 s1 z1 => ?_⟩
    cases q with
    | false => exact L2.iteF ⟨ρ, S1, I1, A1, z1, sl.step s1, p, S', e, fun H2 I2 A2 s2 z2 => k H2 I2 A2 (s1.trans s2) z2⟩
    | true => cases e; exact L2.iteT (k H1 I1 A1 s1 z1)
/-! ### attributes -/
/-- the classes' facts -/
structure TabOk (K : PySem.W.Frag) (T : Tab) : Prop where
  nd : ∀ c, (T.fl c).Nodup
  cl : ∀ c f, f ∈ T.fs c → L2.Cls K (T.ca c)
  na : ∀ c f, f ∈ T.fs c → L2.NoAttr K (T.ca c) (T.nm f)
theorem place_some : ∀ {fs : List Nat} {f j : Nat}, place f fs = some j → fs[j]? = some f
  | [], f, j, h => by cases h
  | y :: r, f, j, h => by
    unfold place at h
    by_cases q : f = y
    · rw [if_pos q] at h; cases h; rw [q]; rfl
    · rw [if_neg q] at h
      obtain ⟨j', h1, rfl⟩ := Option.map_eq_some_iff.mp h
      simpa using place_some h1
theorem lookup_zip : ∀ {ks : List Str} {vs : List V} {j : Nat} {x : Str} {v : V}, ks.Nodup → ks[j]? = some x → vs[j]? = some v → (ks.zip vs).lookup x = some v
  | [], _, _, _, _, _, h, _ => by simp at h
  | _ :: _, [], _, _, _, _, _, h => by simp at h
  | k :: ks, w :: vs, 0, x, v, _, h1, h2 => by
    simp at h1 h2; subst h1; subst h2; simp [List.zip_cons_cons, List.lookup]
  | k :: ks, w :: vs, j + 1, x, v, nd, h1, h2 => by
    rw [List.nodup_cons] at nd
    have h1' : ks[j]? = some x := by simpa using h1
    have hx : x ≠ k := fun e => nd.1 (by rw [← e]; exact List.mem_of_getElem? h1')
    rw [List.zip_cons_cons, List.lookup_cons]
    have : (x == k) = false := by simpa using hx
    rw [this]
    exact lookup_zip nd.2 h1' (by simpa using h2)
theorem w_att {f : Nat} {x : Str} (ht : TabOk X.K T) (hx : T.nm f = x) (ha : WE X T Fr a fa) (hb : attributeBase a x X.env (eval a X.env) = eval a X.env := by rfl) : WE X T Fr (.Attribute a x pos) (eAtt T.fs f fa) :=
  w_one (rr := fun x' H Q => ∃ a C dx fs v, x' = V.ref a ∧ H a = some (.ins C dx fs) ∧ L2.Cls X.K C ∧ L2.NoAttr X.K C x ∧ fs.lookup x = some v ∧ Q v H) (by
    intro H S I A y dx Q p S' z rx e k
    unfold attR at e
    split at e
    · rename_i c vs
      split at e
      · rename_i j hj
        split at e
        · rename_i d hd
          obtain ⟨rfl, rfl⟩ := okS_inv e
          obtain ⟨q, dd, ws, rfl, hq, hl, rw', _⟩ := (show ∃ a dx vs', y = .ref a ∧ H a = some (.ins (T.ca c) dx ((T.fl c).zip vs')) ∧ vs'.length ≤ (T.fl c).length ∧ Reps X.K T I A vs vs' ∧ a ∉ A from rx)
          obtain ⟨w, h1, h2⟩ := rw'.get hd
          have hm : f ∈ T.fs c := List.mem_of_getElem? (place_some hj)
          refine ⟨q, _, dd, _, w, rfl, hq, ht.cl c f hm, hx ▸ ht.na c f hm, ?_, end_val z h2 k⟩
          exact lookup_zip (ht.nd c) (by unfold Tab.fl; rw [List.getElem?_map, place_some hj]; exact congrArg some hx) h1
        · cases e
      · cases e
    · cases e) (L2.pe_fld (peP ha) hb)
/-! ### calls of defs -/
/-- a step of statements: what Fr tells may change -/
structure StepS (Wr : Addr → Prop) (H I : Hp) (A : List Addr) (H' I' : Hp) (A' : List Addr) : Prop where
  ext : ∀ a o, H a = some o → a ∉ A → ¬ Wr a → H' a = some o
  dom : ∀ a, H a ≠ none → H' a ≠ none
  imm : ∀ a o, I a = some o → I' a = some o
  new : ∀ a, I' a ≠ none → I a ≠ none ∨ H a = none ∨ Wr a
  cel : ∃ B, A' = A ++ B ∧ ∀ a ∈ B, H a = none
def spF (K : PySem.W.Frag) (T : Tab) (np : Nat) (F : FF) : L2.Sp := fun vs H Q _ => vs.length = np ∧ ∃ ds S I A, St0 K T H S I A ∧ Reps K T I A ds vs ∧ ∃ r S', F ds S = .ok r S' ∧ r.1 ≠ .pk ∧
  ∀ v H' I' A', Step H I A H' I' A' → St0 K T H' S' I' A' → TagOk K T (fun a => H a = none) H' I' A' r v → Q v H'
def spI (K : PySem.W.Frag) (T : Tab) (np : Nat) (F : FI) : L2.Sp := fun vs H Q _ => vs.length = np ∧ ∃ p d vs' ds S I A, vs = .ref p :: vs' ∧ St0 K T H S I A ∧ I p = none ∧ p ∉ A ∧ OwnC K T H I A d p ∧ Reps K T I A ds vs' ∧ ∃ v d' S', F d ds S = .ok (v, d') S' ∧
  ∀ w H' I' A', StepS (fun a => H a = none ∨ a = p) H I A H' I' A' → St0 K T H' S' I' A' → I' p = none → p ∉ A' → OwnC K T H' I' A' d' p → Rep K T I' A' v w → Q w H'
/-- a def as it is called by name; a method -/
structure CallOk (P : Program) (w : World) (K : PySem.W.Frag) (mg : Str → Option Value) (base : Heap) (T : Tab) (k : Nat) (x : Str) (np : Nat) (F : FF) : Prop where
  ex : ∃ f fd ps, L2.FnOk P w K mg base L2.CX0 k f fd ps (spF K T np F) ∧ mg x = some (.ref f) ∧ PySem.W.keepIn K (.ref f) = true ∧ L2.Binds K fd ps []
  np : ∀ ds S r S', F ds S = .ok r S' → r.1 ≠ .pk ∧ ds.length = np
structure CallOkI (P : Program) (w : World) (K : PySem.W.Frag) (mg : Str → Option Value) (base : Heap) (T : Tab) (k : Nat) (x : Str) (np : Nat) (F : FI) : Prop where
  ex : ∃ f fd ps, L2.FnOk P w K mg base L2.CX0 k f fd ps (spI K T np F) ∧ mg x = some (.ref f) ∧ PySem.W.keepIn K (.ref f) = true ∧ L2.Binds K fd ps []
  np : ∀ d ds S r S', F d ds S = .ok r S' → ds.length + 1 = np
structure MethOk (P : Program) (w : World) (K : PySem.W.Frag) (mg : Str → Option Value) (base : Heap) (T : Tab) (k : Nat) (c : Nat) (m : Str) (np : Nat) (F : FF) : Prop where
  ex : ∃ f fd ps, L2.FnOk P w K mg base L2.CX0 k f fd ps (spF K T np F) ∧ L2.Meth K (T.ca c) m f ∧ L2.Binds K fd ps []
  cl : L2.Cls K (T.ca c)
  nf : m ∉ T.fl c
  np : ∀ ds S r S', F ds S = .ok r S' → r.1 ≠ .pk ∧ ds.length = np
structure MkOk (P : Program) (w : World) (K : PySem.W.Frag) (mg : Str → Option Value) (base : Heap) (T : Tab) (k : Nat) (x : Str) (c : Nat) (np : Nat) (F : FI) : Prop where
  ex : ∃ f fd ps, L2.FnOk P w K mg base L2.CX0 k f fd ps (spI K T np F) ∧ L2.Mk K (T.ca c) f ∧ mg x = some (.ref (T.ca c)) ∧ L2.Binds K fd ps []
  np : ∀ d ds S r S', F d ds S = .ok r S' → ds.length + 1 = np
theorem comb_call {F : FF} {np : Nat} {E : L2.XK} (hn : ∀ ds S r S', F ds S = .ok r S' → r.1 ≠ .pk ∧ ds.length = np) {K : PySem.W.Frag}
    (h : RdE K T Fr (eCall F as) σ H Q) : L2.tCall (spF K T np F) [] E (RdA K T Fr as) σ H Q := by
  obtain ⟨ρ, S, I, A, z, sl, p, S', e, k⟩ := h
  obtain ⟨ds, S1, e1, e⟩ := Res.bind_eq_ok e
  obtain ⟨h1, h2⟩ := hn _ _ _ _ e
  exact ⟨ρ, S, I, A, z, sl, ds, S1, e1, fun vs H1 I1 A1 s1 z1 r1 => ⟨by rw [List.append_nil, r1.length, h2], ds, S1, I1, A1, z1, by rw [List.append_nil]; exact r1, p, S', e, h1, chainE s1 k⟩⟩
theorem w_call {k np : Nat} {x : Str} {F : FF} {p : Pos} (C : CallOk X.prog X.w X.K X.mg X.base T k x np F) (hr : L2.Room k X.A) (ha : WA X T Fr (a :: es) as) (hg : L2.Gl X x := by rfl)
    (hd : (x == Str.ofString "__debug__") = false := by rfl) (hs : starEach (a :: es) X.env = (false, eval a X.env) :: starEach es X.env := by rfl)
    (ht : ((backTo pos (starEach es X.env)).any fun x => x.fst) = false := by rfl) : WE X T Fr (.Call (.Name x p) (a :: es) [] pos) (eCall F as) := by
  obtain ⟨f, fd, ps, G, hm, hk, hb⟩ := C.ex
  exact PE.weak (L2.pe_call G hr hg hm hk hb .nil L2.pass0 ha hd hs ht) fun σ H Q h => comb_call C.np h
theorem w_call0 {k np : Nat} {x : Str} {F : FF} {p : Pos} (C : CallOk X.prog X.w X.K X.mg X.base T k x np F) (hr : L2.Room k X.A) (hg : L2.Gl X x := by rfl)
    (hd : (x == Str.ofString "__debug__") = false := by rfl) : WE X T Fr (.Call (.Name x p) [] [] pos) (eCall F aNil) := by
  obtain ⟨f, fd, ps, G, hm, hk, hb⟩ := C.ex
  refine PE.weak (L2.pe_call0 G hr hg hm hk hb .nil L2.pass0 hd) fun σ H Q h => ?_
  obtain ⟨ρ, S, I, A, z, sl, p, S', e, k⟩ := h
  obtain ⟨h1, h2⟩ := C.np _ _ _ _ (show F [] S = _ from e)
  exact ⟨h2, [], S, I, A, z, rfl, p, S', e, h1, k⟩
theorem meth_none {ks : List Str} {vs : List V} {m : Str} (h : m ∉ ks) : (ks.zip vs).lookup m = none := by
  induction ks generalizing vs with
  | nil => rfl
  | cons k ks ih =>
    cases vs with
    | nil => rfl
    | cons v vs =>
      rw [List.mem_cons, not_or] at h
      rw [List.zip_cons_cons, List.lookup_cons]
      have : (m == k) = false := by simpa using h.1
      rw [this]
      exact ih h.2
theorem w_meth {k np c : Nat} {m : Str} {F : FF} {apos : Pos} {o : Expr} (C : MethOk X.prog X.w X.K X.mg X.base T k c m np F) (hr : L2.Room k X.A) (ho : WE X T Fr o fa) (ha : WA X T Fr (a :: es) as)
    (hs : starEach (a :: es) X.env = (false, eval a X.env) :: starEach es X.env := by rfl) (ht : ((backTo pos (starEach es X.env)).any fun x => x.fst) = false := by rfl)
    {pl : Sem Bool} (hl : eval (.Call (.Attribute o m apos) (a :: es) [] pos) X.env = (do
      let ov ← eval o X.env
      standAt apos.atName
      let (f, first) ← holding [ov] (getMethod ov m pl)
      callWith pos f first (backTo pos (starEach (a :: es) X.env)) (backToKw pos (keywordEach [] X.env))) := by rfl) : WE X T Fr (.Call (.Attribute o m apos) (a :: es) [] pos) (eMeth c F fa as) := by
  obtain ⟨f, fd, ps, G, hm, hb⟩ := C.ex
  refine PE.weak (L2.pe_meth (peV ho) C.cl hm G hr hb .nil L2.pass0 ha hs ht hl) fun σ H Q h => ?_
  obtain ⟨ρ, S, I, A, z, sl, p, S', e, k⟩ := h
  obtain ⟨x, S1, e1, e⟩ := Res.bind_eq_ok e
  obtain ⟨t, d⟩ := x
  obtain ⟨np', e⟩ := kpb e
  refine ⟨ρ, S, I, A, z, sl, (t, d), S1, e1, np', fun v H1 I1 A1 s1 z1 r1 => ?_⟩
  cases d with
  | obj c' fs =>
    obtain ⟨hc, ee⟩ := if_inv e
    subst hc
    obtain ⟨ds, S2, e2, ee2⟩ := Res.bind_eq_ok ee
    obtain ⟨h1, h2⟩ := C.np _ _ _ _ ee2
    obtain ⟨q, dx, ws, rfl, hq, hl, rw', hn⟩ := (show ∃ a dx vs', v = .ref a ∧ H1 a = some (.ins (T.ca c') dx ((T.fl c').zip vs')) ∧ vs'.length ≤ (T.fl c').length ∧ Reps X.K T I1 A1 fs vs' ∧ a ∉ A1 from Rep.content z1 r1)
    refine ⟨q, dx, _, rfl, hq, meth_none C.nf, ρ, S1, I1, A1, z1, sl.step s1, ds, S2, e2, fun vs H2 I2 A2 s2 z2 r2 => ?_⟩
    refine ⟨?_, .obj c' fs :: ds, S2, I2, A2, z2, ⟨_, vs ++ [], rfl, r1.step s2, by rw [List.append_nil]; exact r2⟩, p, S', ee2, h1, chainE (s1.trans s2) k⟩
    rw [List.append_nil, List.length_cons, r2.length, ← h2]; rfl
  | _ => cases e
theorem w_meth0 {k np c : Nat} {m : Str} {F : FF} {apos : Pos} {o : Expr} (C : MethOk X.prog X.w X.K X.mg X.base T k c m np F) (hr : L2.Room k X.A) (ho : WE X T Fr o fa)
    {pl : Sem Bool} (hl : eval (.Call (.Attribute o m apos) [] [] pos) X.env = (do
      let ov ← eval o X.env
      standAt apos.atName
      let (f, first) ← holding [ov] (getMethod ov m pl)
      callWith pos f first (backTo pos (starEach [] X.env)) (backToKw pos (keywordEach [] X.env))) := by rfl) : WE X T Fr (.Call (.Attribute o m apos) [] [] pos) (eMeth c F fa aNil) := by
  obtain ⟨f, fd, ps, G, hm, hb⟩ := C.ex
  refine PE.weak (L2.pe_meth0 (peV ho) C.cl hm G hr hb .nil L2.pass0 hl) fun σ H Q h => ?_
  obtain ⟨ρ, S, I, A, z, sl, p, S', e, k⟩ := h
  obtain ⟨x, S1, e1, e⟩ := Res.bind_eq_ok e
  obtain ⟨t, d⟩ := x
  obtain ⟨np', e⟩ := kpb e
  refine ⟨ρ, S, I, A, z, sl, (t, d), S1, e1, np', fun v H1 I1 A1 s1 z1 r1 => ?_⟩
  cases d with
  | obj c' fs =>
    obtain ⟨hc, ee⟩ := if_inv e
    subst hc
    have ee2 : F [.obj c' fs] S1 = .ok p S' := ee
    obtain ⟨h1, h2⟩ := C.np _ _ _ _ ee2
    obtain ⟨q, dx, ws, rfl, hq, hl, rw', hn⟩ := (show ∃ a dx vs', v = .ref a ∧ H1 a = some (.ins (T.ca c') dx ((T.fl c').zip vs')) ∧ vs'.length ≤ (T.fl c').length ∧ Reps X.K T I1 A1 fs vs' ∧ a ∉ A1 from Rep.content z1 r1)
    exact ⟨q, dx, _, rfl, hq, meth_none C.nf, h2, [.obj c' fs], S1, I1, A1, z1, ⟨_, [], rfl, r1, rfl⟩, p, S', ee2, h1, chainE s1 k⟩
  | _ => cases e
end
end CC
end

section
/-! CcS9: instances made; built-ins; isinstance. -/
namespace CC
open PySem PySem.Spec PyProof.Rows
open L2 (V HO Hp upd SqL SqT Vals upd_same upd_ne ne_of_none TE TT TA TS TI TG VK PE PT PW PA PS PSs PG PI Ends It OpR CallR MtR IxR SlR)
section
variable {X : L2.Cx} {T : Tab} {Fr : Nat → Addr → Prop} {a b c : Expr} {es : List Expr} {pos : Pos} {fa fb fc f : EF} {as : AF} {σ : L2.St} {H : Hp} {Q : VK}
theorem comb_mk {F : FI} {np c : Nat} {E : L2.XK} (hn : ∀ d ds S r S', F d ds S = .ok r S' → ds.length + 1 = np) {K : PySem.W.Frag}
    (h : RdE K T Fr (eMk c F as) σ H Q) : L2.tMake (T.ca c) (spI K T np F) [] E (RdA K T Fr as) σ H Q := by
  obtain ⟨ρ, S, I, A, z, sl, p, S', e, k⟩ := h
  obtain ⟨ds, S1, e1, e2⟩ := Res.bind_eq_ok e
  obtain ⟨r, S2, e3, e4⟩ := Res.bind_eq_ok e2
  refine ⟨ρ, S, I, A, z, sl, ds, S1, e1, fun vs H1 I1 A1 s1 z1 r1 => fun x dx hx hdx hne => ?_⟩
  have h2 := hn _ _ _ _ _ e3
  obtain ⟨v, d'⟩ := r
  obtain ⟨sa, za⟩ := z1.newO hdx (.own x)
  have hx2 : upd H1 dx (.own x) x = none := by rw [upd_ne (Ne.symm hne)]; exact hx
  obtain ⟨sb, zb⟩ := za.newO hx2 (.ins (T.ca c) dx [])
  obtain ⟨fI, fA⟩ := z1.free hx
  have st := sa.trans sb
  refine ⟨by rw [List.append_nil, List.length_cons, r1.length, h2], x, .obj c [], vs, ds, S1, I1, A1, by rw [List.append_nil], zb, fI, fA, ⟨dx, [], by rw [upd_same, List.zip_nil_right], Nat.zero_le _, rfl⟩, r1.step st, v, d', S2, e3, fun w H' I' A' s z' hI' hA' o rp => ?_⟩
  cases v with
  | non =>
    obtain ⟨rfl, rfl⟩ := okO_inv (show okO d' S2 = _ from e4)
    refine ⟨rp, chainE s1 k _ H' I' A' ?_ z' ⟨x, rfl, hI', hA', hx, o⟩⟩
    have nn : ∀ a, upd (upd H1 dx (.own x)) x (.ins (T.ca c) dx []) a = none → H1 a = none := fun a h => st.none h
    refine ⟨fun a o ha hn => ?_, fun a ha => s.dom a (st.dom a ha), s.imm, fun a ha => ?_, ?_⟩
    · refine s.ext a o (st.ext a o ha hn) hn ?_
      rintro (h | h)
      · exact absurd h (st.dom a (by rw [ha]; simp))
      · rw [h, hx] at ha; cases ha
    · rcases s.new a ha with h | h | h | h
      · exact .inl h
      · exact .inr (nn a h)
      · exact .inr (nn a h)
      · exact .inr (by rw [h]; exact hx)
    · obtain ⟨B, h1, h2⟩ := s.cel
      exact ⟨B, h1, fun a ha => nn a (h2 a ha)⟩
  | _ => cases e4
theorem w_mk {k np cc : Nat} {x : Str} {F : FI} {p : Pos} (C : MkOk X.prog X.w X.K X.mg X.base T k x cc np F) (hr : L2.Room (k + 1) X.A) (ha : WA X T Fr (a :: es) as) (hg : L2.Gl X x := by rfl)
    (hd : (x == Str.ofString "__debug__") = false := by rfl) (hs : starEach (a :: es) X.env = (false, eval a X.env) :: starEach es X.env := by rfl)
    (ht : ((backTo pos (starEach es X.env)).any fun x => x.fst) = false := by rfl) : WE X T Fr (.Call (.Name x p) (a :: es) [] pos) (eMk cc F as) := by
  obtain ⟨f, fd, ps, G, hm, hk, hb⟩ := C.ex
  exact PE.weak (L2.pe_make hm G hr hg hk hb .nil L2.pass0 ha hd hs ht) fun σ H Q h => comb_mk C.np h
/-! ### built-ins -/
theorem w_btB {id : String} {x : Str} {r : List V → Hp → VK → Prop} {g : List D → Sto → Res Rr} {p : Pos} (hc : CallR X (.builtin id) r) (hg' : GoodN X.K T r g) (hb : bootBuiltins x = some (.builtin id)) (hm : X.mg x = none) (ha : WP X T Fr (a :: es) as) (hg : L2.Gl X x := by rfl)
    (hx : x ≠ Str.ofString "__name__" := by decide) (hd : (x == Str.ofString "__debug__") = false := by rfl) (hs : starEach (a :: es) X.env = (false, eval a X.env) :: starEach es X.env := by rfl)
    (ht : ((backTo pos (starEach es X.env)).any fun x => x.fst) = false := by rfl) : WE X T Fr (.Call (.Name x p) (a :: es) [] pos) (eBt g as) :=
  PE.weak (L2.pe_callB hc hg hm hb ha hx hd hs ht) fun _ _ _ h => combN hg' h
theorem w_btT {id : String} {x : Str} {r : List V → Hp → VK → Prop} {g : List D → Sto → Res Rr} {p : Pos} (hc : CallR X (.type id) r) (hg' : GoodN X.K T r g) (hb : bootBuiltins x = some (.type id)) (hm : X.mg x = none) (ha : WP X T Fr (a :: es) as) (hg : L2.Gl X x := by rfl)
    (hx : x ≠ Str.ofString "__name__" := by decide) (hd : (x == Str.ofString "__debug__") = false := by rfl) (hs : starEach (a :: es) X.env = (false, eval a X.env) :: starEach es X.env := by rfl)
    (ht : ((backTo pos (starEach es X.env)).any fun x => x.fst) = false := by rfl) : WE X T Fr (.Call (.Name x p) (a :: es) [] pos) (eBt g as) :=
  PE.weak (L2.pe_callTy hc hg hm hb ha hx hd hs ht) fun _ _ _ h => combN hg' h
/-- which built-ins stand by name -/
abbrev ResBt (K : PySem.W.Frag) (T : Tab) (X : L2.Cx) (x : Str) (g : List D → Sto → Res Rr) : Prop := ∃ r, GoodN K T r g ∧ ((∃ id, CallR X (.builtin id) r ∧ bootBuiltins x = some (.builtin id)) ∨ ∃ id, CallR X (.type id) r ∧ bootBuiltins x = some (.type id))
theorem b_len : ResBt X.K T X "len" lenR := ⟨_, good_len, .inl ⟨_, L2.call_len, boot_len⟩⟩
theorem b_abs : ResBt X.K T X "abs" absR := ⟨_, good_abs, .inl ⟨_, L2.call_abs, boot_abs⟩⟩
theorem b_min (hc : X.calm = true := by rfl) : ResBt X.K T X "min" minR := ⟨_, good_min, .inl ⟨_, call_minX hc, boot_min⟩⟩
theorem b_max (hc : X.calm = true := by rfl) : ResBt X.K T X "max" maxR := ⟨_, good_max, .inl ⟨_, call_maxX hc, boot_max⟩⟩
theorem b_sum (hc : X.calm = true := by rfl) : ResBt X.K T X "sum" sumR := ⟨_, good_sum, .inl ⟨_, L2.cr_sum hc, boot_sum⟩⟩
theorem b_all (hc : X.calm = true := by rfl) : ResBt X.K T X "all" allR := ⟨_, good_all, .inl ⟨_, L2.cr_all hc, boot_all⟩⟩
theorem b_any (hc : X.calm = true := by rfl) : ResBt X.K T X "any" anyR := ⟨_, good_any, .inl ⟨_, L2.cr_any hc, boot_any⟩⟩
theorem b_int : ResBt X.K T X "int" intR := ⟨_, good_int, .inr ⟨_, L2.call_int1, boot_int⟩⟩
theorem b_bool : ResBt X.K T X "bool" boolR := ⟨_, good_bool, .inr ⟨_, L2.call_bool1, boot_bool⟩⟩
theorem b_list : ResBt X.K T X "list" listR := ⟨_, good_list, .inr ⟨_, L2.call_list_of, boot_list⟩⟩
theorem b_tuple : ResBt X.K T X "tuple" tupleR := ⟨_, good_tuple, .inr ⟨_, L2.call_tuple_of, boot_tuple⟩⟩
theorem w_bt {x : Str} {g : List D → Sto → Res Rr} {p : Pos} (B : ResBt X.K T X x g) (hm : X.mg x = none) (ha : WP X T Fr (a :: es) as) (hg : L2.Gl X x := by rfl)
    (hx : x ≠ Str.ofString "__name__" := by decide) (hd : (x == Str.ofString "__debug__") = false := by rfl) (hs : starEach (a :: es) X.env = (false, eval a X.env) :: starEach es X.env := by rfl)
    (ht : ((backTo pos (starEach es X.env)).any fun x => x.fst) = false := by rfl) : WE X T Fr (.Call (.Name x p) (a :: es) [] pos) (eBt g as) := by
  obtain ⟨r, hg', ⟨id, hc, hb⟩ | ⟨id, hc, hb⟩⟩ := B
  · exact w_btB hc hg' hb hm ha hg hx hd hs ht
  · exact w_btT hc hg' hb hm ha hg hx hd hs ht
theorem w_lenset {p p2 q : Pos} (h1 : X.mg "len" = none) (h2 : X.mg "set" = none) (ha : WE X T Fr a fa) (g1 : L2.Gl X (Str.ofString "len") := by rfl) (g2 : L2.Gl X (Str.ofString "set") := by rfl) (hc : X.calm = true := by rfl)
    (hs : starEach [a] X.env = (false, eval a X.env) :: starEach [] X.env := by rfl) : WE X T Fr (.Call (.Name (Str.ofString "len") p) [.Call (.Name (Str.ofString "set") p2) [a] [] q] [] pos) (eLenset fa) :=
  w_one (rr := fun x H Q => ∃ l ns, x = V.ref l ∧ SqL X.K H l (List.map V.int ns) ∧ ns.Nodup ∧ ns.length ≤ 4000 ∧ Q (V.int ↑ns.length) H) (by
    intro H S I A x dx Q p S' z rx e k
    dsimp only at e
    unfold lensetR at e
    split at e
    · rename_i xs hx
      cases hx
      split at e
      · rename_i ns hn
        obtain ⟨⟨h1, h2⟩, e⟩ := if_inv e
        obtain ⟨rfl, rfl⟩ := okS_inv e
        obtain ⟨a, vs, rfl, ha, ra, _⟩ := RepC.lst rx
        rw [intsOf_map hn] at ra
        rw [ra.ints] at ha
        exact ⟨a, ns, rfl, .of ha, h1, h2, end_val z (d := .int ns.length) rfl k⟩
      · cases e
    · cases e) (RZ.pe_lenSetI g1 h1 g2 h2 (peP ha) hc hs)
/-! ### isinstance -/
def tyS : Ty → String
  | .int => "int" | .bool => "bool" | .list => "list" | .tuple => "tuple" | .str => "str"
theorem ty_lst {K : PySem.W.Frag} (ty : Ty) (xs : List D) : PySem.W.kitOne K (.type "list") (.type (tyS ty)) = some (tyIs ty (.lst xs)) := by cases ty <;> rfl
theorem ty_tup {K : PySem.W.Frag} (ty : Ty) (xs : List D) : PySem.W.kitOne K (.type "tuple") (.type (tyS ty)) = some (tyIs ty (.tup xs)) := by cases ty <;> rfl
theorem tyX {K : PySem.W.Frag} {H I : Hp} {A : List Addr} {S : Sto} (z : St0 K T H S I A) {d : D} {v : V} (h : isTyp d = true) (r : RepC K T H I A d v) : ∃ t, L2.TyX K H v t ∧ ∀ ty, PySem.W.kitOne K t (.type (tyS ty)) = some (tyIs ty d) := by
  cases d with
  | non => have e : v = .non := r; subst e; exact ⟨_, .base .non, fun ty => by cases ty <;> rfl⟩
  | bl b => have e : v = .bl b := r; subst e; exact ⟨_, .base (.bl b), fun ty => by cases ty <;> rfl⟩
  | int b => have e : v = .int b := r; subst e; exact ⟨_, .base (.int b), fun ty => by cases ty <;> rfl⟩
  | str b => have e : v = .str b := r; subst e; exact ⟨_, .base (.str b), fun ty => by cases ty <;> rfl⟩
  | lst ds =>
    obtain ⟨a, vs, rfl, ha, _, _⟩ := RepC.lst r
    exact ⟨_, .base (.lst ha), fun ty => ty_lst ty ds⟩
  | tup ds =>
    obtain ⟨a, vs, rfl, ha, _, _⟩ := RepC.tup z r
    rcases ha with (ha | ⟨o, ha⟩) | ⟨o, its, n, h1, h2, _⟩
    · exact ⟨_, .base (.tup ha), fun ty => ty_tup ty ds⟩
    · exact ⟨_, .fTuple ha, fun ty => ty_tup ty ds⟩
    · exact ⟨_, .kTuple h1 h2, fun ty => ty_tup ty ds⟩
  | _ => cases h
theorem boot_ty : ∀ ty : Ty, bootBuiltins (Str.ofString (tyS ty)) = some (.type (tyS ty))
  | .int => boot_int | .bool => boot_bool | .list => boot_list | .tuple => boot_tuple | .str => boot_str
theorem tyNd : ∀ ty : Ty, (Str.ofString (tyS ty) == Str.ofString "__debug__") = false
  | .int => rfl | .bool => rfl | .list => rfl | .tuple => rfl | .str => rfl
theorem tyNn : ∀ ty : Ty, Str.ofString (tyS ty) ≠ Str.ofString "__name__"
  | .int => by decide | .bool => by decide | .list => by decide | .tuple => by decide | .str => by decide
theorem w_isi1 {p p2 : Pos} (ty : Ty) (hi : X.mg "isinstance" = none) (hm : X.mg (Str.ofString (tyS ty)) = none) (ha : WE X T Fr a fa) (g1 : L2.Gl X (Str.ofString "isinstance") := by rfl) (g2 : L2.Gl X (Str.ofString (tyS ty)) := by rfl)
    (hs : starEach (a :: [.Name (Str.ofString (tyS ty)) p2]) X.env = (false, eval a X.env) :: starEach [.Name (Str.ofString (tyS ty)) p2] X.env := by rfl) :
    WE X T Fr (.Call (.Name (Str.ofString "isinstance") p) [a, .Name (Str.ofString (tyS ty)) p2] [] pos) (eIsi [ty] fa) :=
  w_one (rr := fun x H Q => L2.rIsi X.K [x, .ty (tyS ty)] H Q) (by
    intro H S I A x dx Q p S' z rx e k
    unfold isiR at e
    obtain ⟨h1, e⟩ := if_inv e
    obtain ⟨rfl, rfl⟩ := okS_inv e
    obtain ⟨t, h2, h3⟩ := tyX z h1 rx
    refine ⟨x, _, t, _, _, rfl, .ty _, h2, h3 ty, ?_⟩
    have := end_val z (d := .bl (tyIs ty dx)) (v := .bl (tyIs ty dx)) rfl (Q := Q) (by simpa using k)
    exact this) (L2.pe_callB L2.call_isi g1 hi boot_isinstance (L2.pa_cons (peP ha) (L2.pa_cons (L2.pe_bltn (v := .ty (tyS ty)) g2 hm (boot_ty ty) rfl (tyNn ty) (tyNd ty)) L2.pa_nil rfl) hs) (by decide) rfl hs rfl)
theorem w_isi2 {p p2 p3 pt : Pos} {kk : Nat} (t1 t2 : Ty) (hi : X.mg "isinstance" = none) (hm : X.mg (Str.ofString (tyS t1)) = none) (hm2 : X.mg (Str.ofString (tyS t2)) = none) (ha : WE X T Fr a fa) (g1 : L2.Gl X (Str.ofString "isinstance") := by rfl)
    (g2 : L2.Gl X (Str.ofString (tyS t1)) := by rfl) (g3 : L2.Gl X (Str.ofString (tyS t2)) := by rfl)
    (hs : starEach (a :: [.Tuple [.Name (Str.ofString (tyS t1)) p2, .Name (Str.ofString (tyS t2)) p3] kk pt]) X.env = (false, eval a X.env) :: starEach [.Tuple [.Name (Str.ofString (tyS t1)) p2, .Name (Str.ofString (tyS t2)) p3] kk pt] X.env := by rfl) :
    WE X T Fr (.Call (.Name (Str.ofString "isinstance") p) [a, .Tuple [.Name (Str.ofString (tyS t1)) p2, .Name (Str.ofString (tyS t2)) p3] kk pt] [] pos) (eIsi [t1, t2] fa) :=
  w_one (rr := fun x H Q => 2 ≤ sizeLine ∧ ∀ p, H p = none → L2.rIsiT X.K [x, .ref p] (upd H p (.tup [.ty (tyS t1), .ty (tyS t2)])) Q) (by
    intro H S I A x dx Q p S' z rx e k
    unfold isiR at e
    obtain ⟨h1, e⟩ := if_inv e
    obtain ⟨rfl, rfl⟩ := okS_inv e
    refine ⟨by decide, fun q hq => ?_⟩
    obtain ⟨s, z2⟩ := z.newO hq (.tup [.ty (tyS t1), .ty (tyS t2)])
    obtain ⟨t, h2, h3⟩ := tyX z2 h1 (rx.step s)
    refine ⟨x, q, _, t, [.type (tyS t1), .type (tyS t2)], [t1, t2].any (fun t => tyIs t dx), rfl, upd_same, .cons (.ty _) (.cons (.ty _) .nil), h2, ?_, k _ _ _ _ s z2 rfl⟩
    unfold PySem.W.kitAny PySem.W.kitAny PySem.W.kitAny
    rw [h3 t1, h3 t2]
    simp only [List.any_cons, List.any_nil]
    cases tyIs t1 dx <;> cases tyIs t2 dx <;> rfl) (L2.pe_callB L2.call_isiT g1 hi boot_isinstance (L2.pa_cons (peP ha) (L2.pa_cons (L2.pe_tup (L2.pa_cons (L2.pe_bltn (v := .ty (tyS t1)) g2 hm (boot_ty t1) rfl (tyNn t1) (tyNd t1)) (L2.pa_cons (L2.pe_bltn (v := .ty (tyS t2)) g3 hm2 (boot_ty t2) rfl (tyNn t2) (tyNd t2)) L2.pa_nil rfl) rfl)) L2.pa_nil rfl) hs) (by decide) rfl hs rfl)
theorem w_isc {p p2 : Pos} {cc : Nat} {x : Str} (ic : C8.InsC X.K (T.ca cc)) (hi : X.mg "isinstance" = none) (hm : X.mg x = some (.ref (T.ca cc))) (ha : WE X T Fr a fa) (g1 : L2.Gl X (Str.ofString "isinstance") := by rfl) (g2 : L2.Gl X x := by rfl)
    (hd : (x == Str.ofString "__debug__") = false := by rfl) (hs : starEach (a :: [.Name x p2]) X.env = (false, eval a X.env) :: starEach [.Name x p2] X.env := by rfl) :
    WE X T Fr (.Call (.Name (Str.ofString "isinstance") p) [a, .Name x p2] [] pos) (eIsc cc fa) :=
  w_one (rr := fun x H Q => ∃ a dx fs, [x, V.ref (T.ca cc)] = [.ref a, .ref (T.ca cc)] ∧ H a = some (.ins (T.ca cc) dx fs) ∧ Q (.bl true) H) (by
    intro H S I A y dx Q p S' z rx e k
    unfold iscR at e
    split at e
    · rename_i c' vs
      obtain ⟨hc, ee⟩ := if_inv e
      subst hc
      obtain ⟨rfl, rfl⟩ := okS_inv ee
      obtain ⟨q, dd, ws, rfl, hq, hl, rw', _⟩ := (show ∃ a dx vs', y = .ref a ∧ H a = some (.ins (T.ca c') dx ((T.fl c').zip vs')) ∧ vs'.length ≤ (T.fl c').length ∧ Reps X.K T I A vs vs' ∧ a ∉ A from rx)
      exact ⟨q, dd, _, rfl, hq, end_val z (d := .bl true) rfl k⟩
    · cases e) (L2.pe_callB (C8.call_isC ic) g1 hi boot_isinstance (L2.pa_cons (peP ha) (L2.pa_cons (L2.pe_glob (v := .ref (T.ca cc)) g2 hm rfl hd) L2.pa_nil rfl) hs) (by decide) rfl hs rfl)
end
end CC
end

section
/-! CcS10: targets; what is gone through. -/
namespace CC
open PySem PySem.Spec PyProof.Rows
open L2 (V HO Hp upd SqL SqT Vals upd_same upd_ne ne_of_none TE TT TA TS TI TG VK PE PT PW PA PS PSs PG PI Ends It OpR CallR MtR IxR SlR)
/-! ### targets -/
def RdG (K : PySem.W.Frag) (T : Tab) (Fr : Nat → Addr → Prop) (vs W W' : List Nat) (f : GF) : TG := fun v σ H Q => ∃ d ρ S I A, St0 K T H S I A ∧ Slots K T Fr H I A W ρ σ ∧ Rep K T I A d v ∧ ∃ ρ', f d ρ = some ρ' ∧
  ∀ σ', Slots K T Fr H I A W' ρ' σ' → L2.wipe σ' vs = L2.wipe σ vs → Q σ' H
def RdGs (K : PySem.W.Frag) (T : Tab) (Fr : Nat → Addr → Prop) (vs W W' : List Nat) (f : GS) : L2.TGs := fun us σ H Q => ∃ ds ρ S I A, St0 K T H S I A ∧ Slots K T Fr H I A W ρ σ ∧ Reps K T I A ds us ∧ ∃ ρ', f ds ρ = some ρ' ∧
  ∀ σ', Slots K T Fr H I A W' ρ' σ' → L2.wipe σ' vs = L2.wipe σ vs → Q σ' H
abbrev WG (X : L2.Cx) (T : Tab) (Fr : Nat → Addr → Prop) (vs W W' : List Nat) (e : Expr) (f : GF) : Prop := PG X e (RdG X.K T Fr vs W W' f)
abbrev WGs (X : L2.Cx) (T : Tab) (Fr : Nat → Addr → Prop) (vs W W' : List Nat) (es : List Expr) (f : GS) (n : Nat) : Prop := L2.PGs X es (RdGs X.K T Fr vs W W' f) ∧ ∀ ds ρ ρ', f ds ρ = some ρ' → ds.length = n
theorem PGs.weak {X : L2.Cx} {e : List Expr} {t t' : L2.TGs} (h : L2.PGs X e t) (hw : ∀ v σ H Q, t' v σ H Q → t v σ H Q) : L2.PGs X e t' := ⟨fun pins s σ H v u Q I r q => h.run pins s σ H v u Q I r (hw v σ H Q q)⟩
theorem wipe_in {σ : L2.St} {j : Nat} : ∀ {vs : List Nat}, j ∈ vs → j < σ.length → (L2.wipe σ vs)[j]? = some none
  | [], h, _ => by simp at h
  | v :: vs, h, hl => by
    unfold L2.wipe
    by_cases q : v = j
    · subst q
      rw [List.getElem?_set_self (by rw [L2.wipe_length]; exact hl)]
    · rw [List.getElem?_set_ne q]
      exact wipe_in (by rcases List.mem_cons.mp h with e | e; · exact absurd e.symm q
                        · exact e) hl
theorem wipe_set {σ : L2.St} {i : Nat} {x : Option V} {vs : List Nat} (h : i ∈ vs) : L2.wipe (σ.set i x) vs = L2.wipe σ vs := by
  apply List.ext_getElem?
  intro j
  by_cases hl : j < σ.length
  · by_cases hj : j ∈ vs
    · rw [wipe_in hj (by rw [List.length_set]; exact hl), wipe_in hj hl]
    · rw [L2.wipe_out hj, L2.wipe_out hj, List.getElem?_set_ne (fun e => hj (by rw [← e]; exact h))]
  · rw [List.getElem?_eq_none (by rw [L2.wipe_length, List.length_set]; omega), List.getElem?_eq_none (by rw [L2.wipe_length]; omega)]
section
variable {X : L2.Cx} {T : Tab} {Fr : Nat → Addr → Prop} {vs W W' W2 : List Nat} {pos : Pos} {e : Expr} {es : List Expr}
theorem w_gN {i : Nat} {x : Str} (hN : X.N.Nodup) (hi : X.N[i]? = some x := by rfl) (hl : L2.Loc X.env.scope x := by first | exact Or.inl rfl | exact Or.inr rfl)
    (hf : X.fn x = true ∨ List.lookup x X.env.scope.names = some NameKind.local := by first | exact Or.inl rfl | exact Or.inr rfl) (hv : i ∈ vs := by decide) : WG X T Fr vs W (W.filter fun j => decide (j ≠ i)) (.Name x pos) (gN i) :=
  PG.weak (L2.pg_name hN hi hl hf) fun v σ H Q h => by
    obtain ⟨d, ρ, S, I, A, z, sl, r, ρ', e, k⟩ := h
    cases e
    exact k _ (sl.set r) (wipe_set hv)
theorem w_gNil : WGs X T Fr vs W W [] gNil 0 := by
  refine ⟨PGs.weak L2.pgs_nil fun us σ H Q h => ?_, fun ds ρ ρ' e => ?_⟩
  · obtain ⟨ds, ρ, S, I, A, z, sl, r, ρ', e, k⟩ := h
    cases ds with
    | nil => cases e; exact ⟨r, k σ sl rfl⟩
    | cons d ds => cases e
  · cases ds with
    | nil => rfl
    | cons d ds => cases e
theorem w_gCons {g : GF} {r : GS} {n : Nat} (hg : WG X T Fr vs W W2 e g) (hr : WGs X T Fr vs W2 W' es r n)
    (ha : List.map (fun x => x.snd) (assignEach (e :: es) X.env) = assign e X.env :: List.map (fun x => x.snd) (assignEach es X.env) := by rfl) : WGs X T Fr vs W W' (e :: es) (gCons g r) (n + 1) :=
  ⟨PGs.weak (L2.pgs_cons hg hr.1 ha) fun us σ H Q h => by
    obtain ⟨ds, ρ, S, I, A, z, sl, rr, ρ', e, k⟩ := h
    cases ds with
    | nil => cases e
    | cons d ds =>
      obtain ⟨v, us', rfl, r1, r2⟩ := (show ∃ v r, us = v :: r ∧ Rep X.K T I A d v ∧ Reps X.K T I A ds r from rr)
      obtain ⟨ρ1, h1, h2⟩ := Option.bind_eq_some_iff.mp (show (g d ρ).bind _ = _ from e)
      exact ⟨v, us', rfl, d, ρ, S, I, A, z, sl, r1, ρ1, h1, fun σ1 sl1 w1 => ⟨ds, ρ1, S, I, A, z, sl1, r2, ρ', h2, fun σ2 sl2 w2 => k σ2 sl2 (w2.trans w1)⟩⟩,
  fun ds ρ ρ' e => by
    cases ds with
    | nil => cases e
    | cons d ds =>
      obtain ⟨ρ1, h1, h2⟩ := Option.bind_eq_some_iff.mp (show (g d ρ).bind _ = _ from e)
      rw [List.length_cons, hr.2 _ _ _ h2]⟩
theorem w_gT {r : GS} {n kk : Nat} (hr : WGs X T Fr vs W W' es r n) (hc : X.calm = true := by rfl) (hn : (assignEach es X.env).length = n := by rfl) (hx : List.findIdx? (fun x => x.fst) (assignEach es X.env) = none := by rfl) : WG X T Fr vs W W' (.Tuple es kk pos) (gT r) :=
  PG.weak (L2.pg_tup hc hr.1 hn hx) fun v σ H Q h => by
    obtain ⟨d, ρ, S, I, A, z, sl, rr, ρ', e, k⟩ := h
    cases d with
    | tup ds =>
      obtain ⟨a, us, rfl, q, r1⟩ := (show ∃ a vs, v = .ref a ∧ I a = some (.tup vs) ∧ Reps X.K T I A ds vs from rr)
      exact ⟨a, us, rfl, .inl (.inl (z.sub _ _ q)), by rw [r1.length]; exact hr.2 _ _ _ e, ds, ρ, S, I, A, z, sl, r1, ρ', e, k⟩
    | _ => cases e
end
/-! ### what is gone through -/
def WkOk (K : PySem.W.Frag) (T : Tab) (P : Hp → Hp → List Addr → Prop) (J : It) (xs : List D) : Prop := ∀ H I A S (i : Nat), P H I A → St0 K T H S I A →
  (xs.length ≤ i → J.stop i H) ∧ ∀ d, xs[i]? = some d → J.go i H ∧ ∀ x H', J.yld i H x H' → ∃ I', Step H I A H' I' A ∧ St0 K T H' S I' A ∧ Rep K T I' A d x
def PK (I0 : Hp) (A0 : List Addr) : Hp → Hp → List Addr → Prop := fun _ I A => (∀ a o, I0 a = some o → I a = some o) ∧ ∀ (k : Nat) (a : Addr), A0[k]? = some a → A[k]? = some a
def PL (H0 I0 : Hp) (A0 : List Addr) : Hp → Hp → List Addr → Prop := fun H I A => Step H0 I0 A0 H I A
def PM (m : Bool) (H0 I0 : Hp) (A0 : List Addr) : Hp → Hp → List Addr → Prop := if m = true then PL H0 I0 A0 else PK I0 A0
def RdI (K : PySem.W.Frag) (T : Tab) (Fr : Nat → Addr → Prop) (m : Bool) (f : IF) : TI := fun σ H R => ∃ ρ S I A, St0 K T H S I A ∧ Slots K T Fr H I A [] ρ σ ∧ ∃ xs S', f ρ S = .ok xs S' ∧
  ∀ J H' I' A', Step H I A H' I' A' → St0 K T H' S' I' A' → WkOk K T (PM m H' I' A') J xs → R J H'
abbrev WI (X : L2.Cx) (T : Tab) (Fr : Nat → Addr → Prop) (m : Bool) (tg e : Expr) (f : IF) : Prop := PI X tg e (RdI X.K T Fr m f)
theorem PI.or {X : L2.Cx} {tg e : Expr} {t t' : TI} (h : PI X tg e t) (h' : PI X tg e t') : PI X tg e (fun σ H R => t σ H R ∨ t' σ H R) := ⟨fun pins s σ H R I q => q.elim (h.run pins s σ H R I) (h'.run pins s σ H R I)⟩
section
variable {K : PySem.W.Frag} {T : Tab} {P : Hp → Hp → List Addr → Prop}
theorem wk_list {a : Addr} {ds : List D} {vs : List V} (h : ∀ H I A S, P H I A → St0 K T H S I A → SqL K H a vs ∧ Reps K T I A ds vs) : WkOk K T P (L2.Itl K a) ds := by
  intro H I A S i p z
  obtain ⟨hq, r⟩ := h H I A S p z
  refine ⟨fun hi => ⟨vs, hq, by rw [r.length]; exact hi⟩, fun d hd => ?_⟩
  obtain ⟨v, hv, rv⟩ := r.get hd
  refine ⟨⟨vs, v, hq, hv⟩, fun x H' hy => ?_⟩
  obtain ⟨rfl, hy⟩ := hy
  have := hy vs hq
  rw [hv] at this; cases this
  exact ⟨I, .refl, z, rv⟩
theorem wk_tup {a : Addr} {ds : List D} {vs : List V} (h : ∀ H I A S, P H I A → St0 K T H S I A → SqT K H a vs ∧ Reps K T I A ds vs) : WkOk K T P (L2.Itt K a) ds := by
  intro H I A S i p z
  obtain ⟨hq, r⟩ := h H I A S p z
  refine ⟨fun hi => ⟨vs, hq, by rw [r.length]; exact hi⟩, fun d hd => ?_⟩
  obtain ⟨v, hv, rv⟩ := r.get hd
  refine ⟨⟨vs, v, hq, hv⟩, fun x H' hy => ?_⟩
  obtain ⟨rfl, hy⟩ := hy
  have := hy vs hq
  rw [hv] at this; cases this
  exact ⟨I, .refl, z, rv⟩
theorem wk_str {x : Str} : WkOk K T P (L2.Its x) (x.cps.toList.map fun c => .str ⟨#[c]⟩) := by
  intro H I A S i p z
  refine ⟨fun hi => ?_, fun d hd => ?_⟩
  · rw [List.length_map, Array.length_toList] at hi
    exact hi
  · rw [List.getElem?_map] at hd
    obtain ⟨c, hc, rfl⟩ := Option.map_eq_some_iff.mp hd
    rw [Array.getElem?_toList] at hc
    refine ⟨(Array.getElem?_eq_some_iff.mp hc).1, fun y H' hy => ?_⟩
    obtain ⟨rfl, c', hc', rfl⟩ := hy
    rw [hc] at hc'; cases hc'
    exact ⟨I, .refl, z, rfl⟩
theorem wk_rng {lo : Int} {n : Nat} : WkOk K T P (L2.Itr lo n) (rangeD lo n) := by
  intro H I A S i p z
  have hl : (rangeD lo n).length = n := by unfold rangeD; simp
  refine ⟨fun hi => by rw [hl] at hi; exact hi, fun d hd => ?_⟩
  have hi : i < n := by rw [← hl]; exact (List.getElem?_eq_some_iff.mp hd).1
  refine ⟨hi, fun y H' hy => ?_⟩
  obtain ⟨rfl, rfl⟩ := hy
  refine ⟨I, .refl, z, ?_⟩
  have : d = .int (lo + (i : Int)) := by
    unfold rangeD at hd
    rw [List.getElem?_map, List.getElem?_range hi] at hd
    cases hd; rfl
  rw [this]; rfl
theorem wk_rngDn {lo : Int} {n : Nat} : WkOk K T P (L2.Itc lo (-1) n) (rangeDn lo n) := by
  intro H I A S i p z
  have hl : (rangeDn lo n).length = n := by unfold rangeDn; simp
  refine ⟨fun hi => by rw [hl] at hi; exact hi, fun d hd => ?_⟩
  have hi : i < n := by rw [← hl]; exact (List.getElem?_eq_some_iff.mp hd).1
  refine ⟨hi, fun y H' hy => ?_⟩
  obtain ⟨rfl, rfl⟩ := hy
  refine ⟨I, .refl, z, ?_⟩
  have : d = .int (lo + (i : Int) * (-1)) := by
    unfold rangeDn at hd
    rw [List.getElem?_map, List.getElem?_range hi] at hd
    cases hd; rfl
  rw [this]; rfl
theorem wk_enum {a : Addr} {ds : List D} {vs : List V} (h : ∀ H I A S, P H I A → St0 K T H S I A → SqL K H a vs ∧ Reps K T I A ds vs) : WkOk K T P (L2.Ite K a) (enumD ds) := by
  intro H I A S i p z
  obtain ⟨hq, r⟩ := h H I A S p z
  have hl : (enumD ds).length = ds.length := by unfold enumD; simp
  refine ⟨fun hi => ⟨vs, hq, by rw [r.length, ← hl]; exact hi⟩, fun d hd => ?_⟩
  have hi : i < ds.length := by rw [← hl]; exact (List.getElem?_eq_some_iff.mp hd).1
  have hd2 : d = .tup [.int (i : Nat), ds[i]] := by
    unfold enumD at hd
    rw [List.getElem?_map, List.getElem?_zipIdx, List.getElem?_eq_getElem hi] at hd
    simp at hd; rw [← hd]
  obtain ⟨v, hv, rv⟩ := r.get (List.getElem?_eq_getElem hi)
  refine ⟨⟨vs, v, hq, hv⟩, fun x H' hy => ?_⟩
  obtain ⟨p, w, rfl, hp, rfl, hy⟩ := hy
  have := hy vs hq
  rw [hv] at this; cases this
  obtain ⟨s, z2⟩ := z.newI hp (.tup [.int (i : Nat), v])
  refine ⟨_, s, z2, ?_⟩
  rw [hd2]
  exact ⟨p, [.int (i : Nat), v], rfl, upd_same, ⟨_, _, rfl, rfl, _, _, rfl, rv.step s, rfl⟩⟩
theorem zip_at {xs ys : List D} {i : Nat} {d : D} (h : (zipD xs ys)[i]? = some d) : ∃ x y, xs[i]? = some x ∧ ys[i]? = some y ∧ d = .tup [x, y] := by
  unfold zipD at h
  rw [List.getElem?_map] at h
  obtain ⟨⟨x, y⟩, h1, rfl⟩ := Option.map_eq_some_iff.mp h
  have := List.getElem?_zip_eq_some.mp h1
  exact ⟨x, y, this.1, this.2, rfl⟩
theorem zip_len (xs ys : List D) : (zipD xs ys).length = min xs.length ys.length := by unfold zipD; simp
theorem wk_zip {a b : Addr} {ds es : List D} {vs ws : List V} (h : ∀ H I A S, P H I A → St0 K T H S I A → (SqL K H a vs ∧ Reps K T I A ds vs) ∧ SqL K H b ws ∧ Reps K T I A es ws) : WkOk K T P (L2.Itz K a b) (zipD ds es) := by
  intro H I A S i p z
  obtain ⟨⟨hq, r⟩, hq2, r2⟩ := h H I A S p z
  refine ⟨fun hi => ⟨vs, ws, hq, hq2, ?_⟩, fun d hd => ?_⟩
  · rw [zip_len] at hi
    rw [r.length, r2.length]; omega
  · obtain ⟨x, y, h1, h2, rfl⟩ := zip_at hd
    obtain ⟨v, hv, rv⟩ := r.get h1
    obtain ⟨w, hw, rw'⟩ := r2.get h2
    refine ⟨⟨vs, ws, v, w, hq, hq2, hv, hw⟩, fun u H' hy => ?_⟩
    obtain ⟨p, x', y', rfl, hp, rfl, hy, hy2⟩ := hy
    have e1 := hy vs hq
    have e2 := hy2 ws hq2
    rw [hv] at e1; cases e1
    rw [hw] at e2; cases e2
    obtain ⟨s, z2⟩ := z.newI hp (.tup [v, w])
    exact ⟨_, s, z2, p, [v, w], rfl, upd_same, ⟨_, _, rfl, rv.step s, _, _, rfl, rw'.step s, rfl⟩⟩
theorem wk_zipT {a b : Addr} {ds es : List D} {vs ws : List V} (h : ∀ H I A S, P H I A → St0 K T H S I A → (SqT K H a vs ∧ Reps K T I A ds vs) ∧ SqT K H b ws ∧ Reps K T I A es ws) : WkOk K T P (RZ.ItzT K a b) (zipD ds es) := by
  intro H I A S i p z
  obtain ⟨⟨hq, r⟩, hq2, r2⟩ := h H I A S p z
  refine ⟨fun hi => ⟨vs, ws, hq, hq2, ?_⟩, fun d hd => ?_⟩
  · rw [zip_len] at hi
    rw [r.length, r2.length]; omega
  · obtain ⟨x, y, h1, h2, rfl⟩ := zip_at hd
    obtain ⟨v, hv, rv⟩ := r.get h1
    obtain ⟨w, hw, rw'⟩ := r2.get h2
    refine ⟨⟨vs, ws, v, w, hq, hq2, hv, hw⟩, fun u H' hy => ?_⟩
    obtain ⟨p, x', y', rfl, hp, rfl, hy, hy2⟩ := hy
    have e1 := hy vs hq
    have e2 := hy2 ws hq2
    rw [hv] at e1; cases e1
    rw [hw] at e2; cases e2
    obtain ⟨s, z2⟩ := z.newI hp (.tup [v, w])
    exact ⟨_, s, z2, p, [v, w], rfl, upd_same, ⟨_, _, rfl, rv.step s, _, _, rfl, rw'.step s, rfl⟩⟩
/-- how sources stay -/
theorem st_lst (m : Bool) {H0 I0 : Hp} {A0 : List Addr} {S0 : Sto} (z0 : St0 K T H0 S0 I0 A0) {ds : List D} {v : V} (h : if m = true then RepC K T H0 I0 A0 (.lst ds) v else Rep K T I0 A0 (.lst ds) v) :
    ∃ a vs, v = .ref a ∧ SqL K H0 a vs ∧ ∀ H I A S, PM m H0 I0 A0 H I A → St0 K T H S I A → SqL K H a vs ∧ Reps K T I A ds vs := by
  cases m with
  | true =>
    obtain ⟨a, vs, rfl, ha, ra, na⟩ := RepC.lst (show RepC K T H0 I0 A0 (.lst ds) v from h)
    exact ⟨a, vs, rfl, .of ha, fun H I A S p z => ⟨.of (Step.ext (show Step H0 I0 A0 H I A from p) _ _ ha na), ra.step (show Step H0 I0 A0 H I A from p)⟩⟩
  | false =>
    obtain ⟨a, vs, rfl, ha, ra⟩ := (show ∃ a vs, v = .ref a ∧ I0 a = some (.lst vs) ∧ Reps K T I0 A0 ds vs from h)
    exact ⟨a, vs, rfl, .of (z0.sub _ _ ha), fun H I A S p z => ⟨.of (z.sub _ _ ((show PK I0 A0 H I A from p).1 _ _ ha)), Reps.mono (show PK I0 A0 H I A from p).1 (show PK I0 A0 H I A from p).2 _ _ ra⟩⟩
theorem st_tup (m : Bool) {H0 I0 : Hp} {A0 : List Addr} {S0 : Sto} (z0 : St0 K T H0 S0 I0 A0) {ds : List D} {v : V} (h : if m = true then RepC K T H0 I0 A0 (.tup ds) v else Rep K T I0 A0 (.tup ds) v) :
    ∃ a vs, v = .ref a ∧ SqT K H0 a vs ∧ ∀ H I A S, PM m H0 I0 A0 H I A → St0 K T H S I A → SqT K H a vs ∧ Reps K T I A ds vs := by
  have h' : Rep K T I0 A0 (.tup ds) v := by cases m <;> exact h
  obtain ⟨a, vs, rfl, ha, ra⟩ := (show ∃ a vs, v = .ref a ∧ I0 a = some (.tup vs) ∧ Reps K T I0 A0 ds vs from h')
  refine ⟨a, vs, rfl, .inl (.inl (z0.sub _ _ ha)), fun H I A S p z => ?_⟩
  have q : (∀ a o, I0 a = some o → I a = some o) ∧ ∀ (k : Nat) (a : Addr), A0[k]? = some a → A[k]? = some a := by
    cases m with
    | true => exact ⟨(show Step H0 I0 A0 H I A from p).imm, fun k a e => (show Step H0 I0 A0 H I A from p).getA e⟩
    | false => exact p
  exact ⟨.inl (.inl (z.sub _ _ (q.1 _ _ ha))), Reps.mono q.1 q.2 _ _ ra⟩
end
section
variable {X : L2.Cx} {T : Tab} {Fr : Nat → Addr → Prop} {a b c tg : Expr} {pos : Pos} {fa fb fc : EF}
theorem w_iE (ha : WE X T Fr a fa) : WI X T Fr true tg a (iE fa) :=
  PI.weak (PI.or (L2.pi_list (peP ha)) (PI.or (L2.pi_tup (peP ha)) (L2.pi_str (peP ha)))) fun σ H R h => by
    obtain ⟨ρ, S, I, A, z, sl, xs, S', e, k⟩ := h
    obtain ⟨⟨t, d⟩, S1, e1, ee⟩ := Res.bind_eq_ok e
    unfold itemsR at ee
    cases d with
    | lst ds =>
      cases ee
      refine .inl ⟨ρ, S, I, A, z, sl, _, _, e1, fun v H1 I1 A1 s1 z1 r1 => ?_⟩
      obtain ⟨q, vs, rfl, hq, w⟩ := st_lst true z1 (v := v) r1
      exact ⟨q, rfl, ⟨vs, hq⟩, k _ H1 I1 A1 s1 z1 (wk_list w)⟩
    | tup ds =>
      cases ee
      refine .inr (.inl ⟨ρ, S, I, A, z, sl, _, _, e1, fun v H1 I1 A1 s1 z1 r1 => ?_⟩)
      obtain ⟨q, vs, rfl, hq, w⟩ := st_tup true z1 (v := v) r1
      exact ⟨q, rfl, ⟨vs, hq⟩, k _ H1 I1 A1 s1 z1 (wk_tup w)⟩
    | str x =>
      cases ee
      exact .inr (.inr ⟨ρ, S, I, A, z, sl, _, _, e1, fun v H1 I1 A1 s1 z1 r1 => ⟨x, r1, k _ H1 I1 A1 s1 z1 wk_str⟩⟩)
    | _ => cases ee
theorem w_iK (ha : WE X T Fr a fa) : WI X T Fr false tg a (iK fa) :=
  PI.weak (PI.or (L2.pi_list (peV ha)) (PI.or (L2.pi_tup (peV ha)) (L2.pi_str (peV ha)))) fun σ H R h => by
    obtain ⟨ρ, S, I, A, z, sl, xs, S', e, k⟩ := h
    obtain ⟨⟨t, d⟩, S1, e1, e2⟩ := Res.bind_eq_ok e
    obtain ⟨np, ee⟩ := kpb e2
    dsimp only at ee
    unfold itemsR at ee
    cases d with
    | lst ds =>
      cases ee
      refine .inl ⟨ρ, S, I, A, z, sl, _, _, e1, np, fun v H1 I1 A1 s1 z1 r1 => ?_⟩
      obtain ⟨q, vs, rfl, hq, w⟩ := st_lst false z1 (v := v) r1
      exact ⟨q, rfl, ⟨vs, hq⟩, k _ H1 I1 A1 s1 z1 (wk_list w)⟩
    | tup ds =>
      cases ee
      refine .inr (.inl ⟨ρ, S, I, A, z, sl, _, _, e1, np, fun v H1 I1 A1 s1 z1 r1 => ?_⟩)
      obtain ⟨q, vs, rfl, hq, w⟩ := st_tup false z1 (v := v) r1
      exact ⟨q, rfl, ⟨vs, hq⟩, k _ H1 I1 A1 s1 z1 (wk_tup w)⟩
    | str x =>
      cases ee
      exact .inr (.inr ⟨ρ, S, I, A, z, sl, _, _, e1, np, fun v H1 I1 A1 s1 z1 r1 => ⟨x, r1, k _ H1 I1 A1 s1 z1 wk_str⟩⟩)
    | _ => cases ee
theorem w_iR1 {m : Bool} {p : Pos} (hm : X.mg (Str.ofString "range") = none) (ha : WE X T Fr a fa) (hg : L2.Gl X (Str.ofString "range") := by rfl) (hs : starEach [a] X.env = [(false, eval a X.env)] := by rfl) :
    WI X T Fr m tg (.Call (.Name (Str.ofString "range") p) [a] [] pos) (iR1 fa) :=
  PI.weak (L2.pi_range1 hg hm (L2.pa_cons (peP ha) L2.pa_nil hs) hs) fun σ H R h => by
    obtain ⟨ρ, S, I, A, z, sl, xs, S', e, k⟩ := h
    obtain ⟨⟨t, d⟩, S1, e1, ee⟩ := Res.bind_eq_ok e
    refine ⟨ρ, S, I, A, z, sl, _, _, e1, fun v H1 I1 A1 s1 z1 r1 => ?_⟩
    cases d with
    | int n =>
      obtain ⟨hr, ee⟩ := if_inv ee
      obtain ⟨h1, h2⟩ := hr.of
      cases ee
      have e0 : v = .int n := r1
      subst e0
      exact ⟨n, rfl, h1, h2, k _ H1 I1 A1 s1 z1 wk_rng⟩
    | _ => cases ee
theorem w_iR2 {m : Bool} {p : Pos} (hm : X.mg (Str.ofString "range") = none) (ha : WE X T Fr a fa) (hb : WE X T Fr b fb) (hg : L2.Gl X (Str.ofString "range") := by rfl) (hs : starEach [a, b] X.env = [(false, eval a X.env), (false, eval b X.env)] := by rfl) (hs2 : starEach [b] X.env = [(false, eval b X.env)] := by rfl) :
    WI X T Fr m tg (.Call (.Name (Str.ofString "range") p) [a, b] [] pos) (iR2 fa fb) :=
  PI.weak (L2.pi_range2 hg hm (L2.pa_cons (peP ha) (L2.pa_cons (peP hb) L2.pa_nil hs2) (by rw [hs, hs2])) hs hs2) fun σ H R h => by
    obtain ⟨ρ, S, I, A, z, sl, xs, S', e, k⟩ := h
    obtain ⟨⟨t, d⟩, S1, e1, ee⟩ := Res.bind_eq_ok e
    obtain ⟨⟨t2, d2⟩, S2, e2, ee2⟩ := Res.bind_eq_ok ee
    refine ⟨ρ, S, I, A, z, sl, _, _, e1, fun v H1 I1 A1 s1 z1 r1 => ⟨ρ, S1, I1, A1, z1, sl.step s1, _, _, e2, fun w H2 I2 A2 s2 z2 r2 => ?_⟩⟩
    cases d with
    | int n =>
      cases d2 with
      | int n2 =>
        obtain ⟨⟨hr, hr2⟩, ee3⟩ := if_inv ee2
        obtain ⟨h1, h2⟩ := hr.of
        obtain ⟨h3, h4⟩ := hr2.of
        cases ee3
        have e0 : v = .int n := r1
        have e3 : w = .int n2 := r2
        subst e0; subst e3
        exact ⟨n, n2, rfl, ⟨h1, h2, h3, h4⟩, k _ H2 I2 A2 (s1.trans s2) z2 wk_rng⟩
      | _ => cases ee2
    | _ => cases ee2
theorem w_iR3 {m : Bool} {p : Pos} (hm : X.mg (Str.ofString "range") = none) (ha : WE X T Fr a fa) (hb : WE X T Fr b fb) (hc : WE X T Fr c fc) (hg : L2.Gl X (Str.ofString "range") := by rfl) (hs : starEach [a, b, c] X.env = (false, eval a X.env) :: starEach [b, c] X.env := by rfl)
    (hs2 : starEach [b, c] X.env = (false, eval b X.env) :: starEach [c] X.env := by rfl) (hs3 : starEach [c] X.env = [(false, eval c X.env)] := by rfl) (ht : ((backTo pos (starEach [b, c] X.env)).any fun x => x.fst) = false := by rfl) :
    WI X T Fr m tg (.Call (.Name (Str.ofString "range") p) [a, b, c] [] pos) (iR3 fa fb fc) :=
  PI.weak (L2.pi_range3 hg hm (L2.pa_cons (peP ha) (L2.pa_cons (peP hb) (L2.pa_cons (peP hc) L2.pa_nil hs3) hs2) hs) hs ht) fun σ H R h => by
    obtain ⟨ρ, S, I, A, z, sl, xs, S', e, k⟩ := h
    obtain ⟨⟨t, d⟩, S1, e1, ee⟩ := Res.bind_eq_ok e
    obtain ⟨⟨t2, d2⟩, S2, e2, ee2⟩ := Res.bind_eq_ok ee
    obtain ⟨⟨t3, d3⟩, S3, e3, ee3⟩ := Res.bind_eq_ok ee2
    refine ⟨ρ, S, I, A, z, sl, _, _, e1, fun v H1 I1 A1 s1 z1 r1 => ⟨ρ, S1, I1, A1, z1, sl.step s1, _, _, e2, fun w H2 I2 A2 s2 z2 r2 => ⟨ρ, S2, I2, A2, z2, sl.step (s1.trans s2), _, _, e3, fun u H3 I3 A3 s3 z3 r3 => ?_⟩⟩⟩
    cases d with
    | int n =>
      cases d2 with
      | int n2 =>
        cases d3 with
        | int n3 =>
          obtain ⟨⟨hr, hr2, h5⟩, ee4⟩ := if_inv ee3
          obtain ⟨h1, h2⟩ := hr.of
          obtain ⟨h3, h4⟩ := hr2.of
          cases ee4
          have e0 : v = .int n := r1
          have e3 : w = .int n2 := r2
          have e4 : u = .int n3 := r3
          subst e0; subst e3; subst e4; subst h5
          exact ⟨n, n2, -1, (n - n2).toNat, rfl, L2.RgC.neg h1 h2 h3 h4, k _ H3 I3 A3 ((s1.trans s2).trans s3) z3 wk_rngDn⟩
        | _ => cases ee3
      | _ => cases ee3
    | _ => cases ee3
theorem w_iEnum {p tpos : Pos} {elts : List Expr} {kk : Nat} (hm : X.mg (Str.ofString "enumerate") = none) (ha : WE X T Fr a fa) (hg : L2.Gl X (Str.ofString "enumerate") := by rfl) (hs : starEach [a] X.env = [(false, eval a X.env)] := by rfl) :
    WI X T Fr true (.Tuple elts kk tpos) (.Call (.Name (Str.ofString "enumerate") p) [a] [] pos) (iEnum fa) :=
  PI.weak (L2.pi_enum hg hm (L2.pa_cons (peP ha) L2.pa_nil hs) hs) fun σ H R h => by
    obtain ⟨ρ, S, I, A, z, sl, xs, S', e, k⟩ := h
    obtain ⟨⟨t, d⟩, S1, e1, ee⟩ := Res.bind_eq_ok e
    refine ⟨ρ, S, I, A, z, sl, _, _, e1, fun v H1 I1 A1 s1 z1 r1 => ?_⟩
    cases d with
    | lst ds =>
      cases ee
      obtain ⟨q, vs, rfl, hq, w⟩ := st_lst true z1 (v := v) r1
      exact ⟨q, vs, rfl, hq, k _ H1 I1 A1 s1 z1 (wk_enum w)⟩
    | _ => cases ee
theorem w_iEnumK {p tpos : Pos} {elts : List Expr} {kk : Nat} (hm : X.mg (Str.ofString "enumerate") = none) (ha : WE X T Fr a fa) (hg : L2.Gl X (Str.ofString "enumerate") := by rfl) (hs : starEach [a] X.env = [(false, eval a X.env)] := by rfl) :
    WI X T Fr false (.Tuple elts kk tpos) (.Call (.Name (Str.ofString "enumerate") p) [a] [] pos) (iEnumK fa) :=
  PI.weak (L2.pi_enum hg hm (L2.pa_cons (peV ha) L2.pa_nil hs) hs) fun σ H R h => by
    obtain ⟨ρ, S, I, A, z, sl, xs, S', e, k⟩ := h
    obtain ⟨⟨t, d⟩, S1, e1, e2⟩ := Res.bind_eq_ok e
    obtain ⟨np, ee⟩ := kpb e2
    refine ⟨ρ, S, I, A, z, sl, _, _, e1, np, fun v H1 I1 A1 s1 z1 r1 => ?_⟩
    cases d with
    | lst ds =>
      cases ee
      obtain ⟨q, vs, rfl, hq, w⟩ := st_lst false z1 (v := v) r1
      exact ⟨q, vs, rfl, hq, k _ H1 I1 A1 s1 z1 (wk_enum w)⟩
    | _ => cases ee
end
end CC
end

section
/-! CcS11: comprehensions, zip. -/
namespace CC
open PySem PySem.Spec PyProof.Rows
open L2 (V HO Hp upd SqL SqT Vals upd_same upd_ne ne_of_none TE TT TA TS TI TG VK PE PT PW PA PS PSs PG PI Ends It OpR CallR MtR IxR SlR)
section
variable {K : PySem.W.Frag} {T : Tab} {Fr : Nat → Addr → Prop} {H I : Hp} {A : List Addr} {S : Sto}
/-- a thing of nobody's is changed -/
theorem St0.updO (z : St0 K T H S I A) {p : Addr} (hI : I p = none) (hA : p ∉ A) (o : HO) : St0 K T (upd H p o) S I A := by
  refine ⟨fun a u e => ?_, z.len, z.nd, fun k a d h1 h2 => ?_⟩
  · have : a ≠ p := fun q => by rw [q, hI] at e; cases e
    rw [upd_ne this]; exact z.sub a u e
  · obtain ⟨q1, ds, vs, q2, q3, q4⟩ := z.cel k a d h1 h2
    have : a ≠ p := fun q => hA (by rw [← q]; exact List.mem_of_getElem? h1)
    exact ⟨q1, ds, vs, q2, by rw [upd_ne this]; exact q3, q4⟩
/-- .. behind a heap in which it was not -/
theorem Step.updO {H0 I0 : Hp} {A0 : List Addr} (s : Step H0 I0 A0 H I A) {p : Addr} (hp : H0 p = Option.none) (o : HO) : Step H0 I0 A0 (upd H p o) I A := by
  refine ⟨fun a u e n => ?_, fun a e => ?_, s.imm, s.new, s.cel⟩
  · rw [upd_ne (ne_of_none e hp)]; exact s.ext a u e n
  · by_cases q : a = p
    · rw [q, upd_same]; simp
    · rw [upd_ne q]; exact s.dom a e
theorem Slots.wipe {ρ : Env} {σ : L2.St} (h : Slots K T Fr H I A [] ρ σ) (vs : List Nat) : Slots K T Fr H I A vs ρ (L2.wipe σ vs) := by
  refine ⟨by rw [L2.wipe_length]; exact h.len, fun i d hi e => ?_, fun i d hi e => ?_, fun i j d e a hi hj hne h1 h2 h3 => ?_⟩
  · rw [L2.wipe_out hi]; exact h.sh i d (by simp) e
  · rw [L2.wipe_out hi]; exact h.ow i d (by simp) e
  · rw [L2.wipe_out hi] at h3
    rw [L2.wipe_out hj]
    exact h.apart i j d e a (by simp) (by simp) hne h1 h2 h3
/-- own things stay through steps -/
theorem Step.keepO {H' I' : Hp} {A' : List Addr} (s : Step H I A H' I' A') {p : Addr} {o : HO} (hp : H p = some o) (hI : I p = Option.none) (hA : p ∉ A) : H' p = some o ∧ I' p = Option.none ∧ p ∉ A' := by
  refine ⟨s.ext p o hp hA, ?_, s.notMem hp hA⟩
  cases q : I' p with
  | none => rfl
  | some u =>
    rcases s.new p (by rw [q]; simp) with e | e
    · exact absurd hI e
    · rw [hp] at e; cases e
theorem comb_comp {elt : EF} {g : GF} {it : IF} {c : BF} {vs W' : List Nat} {σ : L2.St} {Q : VK} (hW : W' = []) (h : RdE K T Fr (eComp elt g it c) σ H Q) :
    L2.tLc (RdI K T Fr true it) (RdG K T Fr vs vs W' g) (RdT K T Fr c) (RdV K T Fr elt) vs σ H Q := by
  subst hW
  obtain ⟨ρ, S, I, A, z, sl, p, S', e, k⟩ := h
  obtain ⟨xs, S1, e1, e2⟩ := Res.bind_eq_ok e
  obtain ⟨res, S2, e3, e4⟩ := Res.bind_eq_ok e2
  obtain ⟨hlen, e5⟩ := if_inv e4
  obtain ⟨rfl, rfl⟩ := okO_inv e5
  refine ⟨ρ, S, I, A, z, sl, xs, S1, e1, fun J H1 I1 A1 s1 z1 wk D hD => ?_⟩
  have sl1 := sl.step s1
  refine ⟨fun i m Hc => m = xs.length - i ∧ i ≤ xs.length ∧ ∃ Sc Ic Ac ys zs vacc, Step H1 I1 A1 Hc Ic Ac ∧ St0 K T Hc Sc Ic Ac ∧ Hc D = some (.lst vacc) ∧ Ic D = none ∧ D ∉ Ac ∧ Reps K T Ic Ac ys vacc ∧ ys.length ≤ i ∧
    compL (cBody elt g c ρ) (xs.drop i) Sc = .ok zs S' ∧ ys ++ zs = res, ⟨xs.length, ?_⟩, ?_⟩
  · obtain ⟨fI, fA⟩ := z1.free hD
    exact ⟨by simp, Nat.zero_le _, S1, I1, A1, [], res, [], Step.refl.updO hD _, z1.updO fI fA _, upd_same, fI, fA, rfl, Nat.zero_le _, by simpa using e3, rfl⟩
  · rintro i m Hc ⟨rfl, hi, Sc, Ic, Ac, ys, zs, vacc, sc, zc, hDc, hDI, hDA, racc, hyl, ec, hres⟩
    have w := wk Hc Ic Ac Sc i sc zc
    by_cases hie : xs.length ≤ i
    · refine .inl ⟨w.1 hie, ?_⟩
      rw [List.drop_eq_nil_of_le hie] at ec
      cases ec
      rw [List.append_nil] at hres
      subst hres
      have hDH : H D = none := s1.none hD
      exact k _ Hc Ic Ac (s1.trans sc) zc ⟨D, rfl, hDI, hDA, hDH, vacc, hDc, racc⟩
    · have hlt : i < xs.length := by omega
      obtain ⟨hgo, hy⟩ := w.2 xs[i] (List.getElem?_eq_getElem hlt)
      refine .inr ⟨hgo, fun H' => ∃ m', m' < xs.length - i ∧ (m' = xs.length - (i + 1) ∧ i + 1 ≤ xs.length ∧ ∃ Sc Ic Ac ys zs vacc, Step H1 I1 A1 H' Ic Ac ∧ St0 K T H' Sc Ic Ac ∧ H' D = some (.lst vacc) ∧ Ic D = none ∧ D ∉ Ac ∧ Reps K T Ic Ac ys vacc ∧ ys.length ≤ i + 1 ∧
        compL (cBody elt g c ρ) (xs.drop (i + 1)) Sc = .ok zs S' ∧ ys ++ zs = res), fun H' h => h, fun x H' hyl' => ?_⟩
      obtain ⟨I2, s2, z2, r2⟩ := hy x H' hyl'
      obtain ⟨kD2, kI2, kA2⟩ := s2.keepO hDc hDI hDA
      rw [List.drop_eq_getElem_cons hlt] at ec
      obtain ⟨o, S3, e6, e7⟩ := Res.bind_eq_ok (show (cBody elt g c ρ xs[i] Sc).bind _ = _ from ec)
      unfold cBody at e6
      split at e6
      · rename_i ρ1 hρ1
        obtain ⟨b, S4, e8, e9⟩ := Res.bind_eq_ok e6
        have slw : Slots K T Fr H' I2 Ac vs ρ (L2.wipe σ vs) := ((sl1.step sc).step s2).wipe vs
        refine ⟨xs[i], ρ, Sc, I2, Ac, z2, slw, r2, ρ1, hρ1, fun σ' sl' hw' => ⟨?_, ?_⟩⟩
        · rw [hw']
          apply List.ext_getElem?
          intro j
          by_cases hl : j < σ.length
          · by_cases hj : j ∈ vs
            · rw [wipe_in hj (by rw [L2.wipe_length]; exact hl), wipe_in hj hl]
            · rw [L2.wipe_out hj]
          · rw [List.getElem?_eq_none (by rw [L2.wipe_length, L2.wipe_length]; omega), List.getElem?_eq_none (by rw [L2.wipe_length]; omega)]
        · refine ⟨ρ1, Sc, I2, Ac, z2, sl', b, S4, e8, fun H3 I3 A3 s3 z3 => ?_⟩
          obtain ⟨kD3, kI3, kA3⟩ := s3.keepO kD2 kI2 kA2
          obtain ⟨zs', S5, e10, e11⟩ := Res.bind_eq_ok e7
          cases b with
          | false =>
            refine L2.iteF ?_
            cases (show Res.ok none S4 = Res.ok o S3 from e9)
            cases e11
            exact ⟨_, by omega, rfl, hlt, _, I3, A3, ys, _, vacc, (sc.trans s2).trans s3, z3, kD3, kI3, kA3, (racc.step s2).step s3, by omega, e10, hres⟩
          | true =>
            refine L2.iteT ?_
            obtain ⟨y, S6, e12, e13⟩ := Res.bind_eq_ok (show (elt ρ1 S4).bind _ = Res.ok o S3 from e9)
            obtain ⟨np, e14⟩ := kpb e13
            cases e14
            cases e11
            refine ⟨ρ1, S4, I3, A3, z3, sl'.step s3, y, _, e12, np, fun v H4 I4 A4 s4 z4 r4 => ?_⟩
            obtain ⟨kD4, kI4, kA4⟩ := s4.keepO kD3 kI3 kA3
            have hl : vacc.length < sizeLine := by
              rw [racc.length, ← szE]; omega
            refine ⟨vacc, kD4, hl, _, ?_, rfl, hlt, _, I4, A4, ys ++ [y.2], zs', vacc ++ [v], (((sc.trans s2).trans s3).trans s4).updO hD _, z4.updO kI4 kA4 _, upd_same, kI4, kA4, (((racc.step s2).step s3).step s4).append (.one r4), by rw [List.length_append]; simp; omega, e10, by rw [← hres, List.append_assoc]; rfl⟩
            omega
      · cases e6
end
section
variable {X : L2.Cx} {T : Tab} {Fr : Nat → Addr → Prop} {a b c tg : Expr} {pos : Pos} {fa fb fc : EF}
abbrev WTs (X : L2.Cx) (T : Tab) (Fr : Nat → Addr → Prop) (es : List Expr) (f : BF) : Prop := L2.PTs X es (RdT X.K T Fr f)
theorem PTs.weak {X : L2.Cx} {e : List Expr} {t t' : TT} (h : L2.PTs X e t) (hw : ∀ σ H Q, t' σ H Q → t σ H Q) : L2.PTs X e t' := ⟨fun pins s σ H Q I q => h.run pins s σ H Q I (hw σ H Q q)⟩
theorem w_ifs0 : WTs X T Fr [] tYes := PTs.weak L2.pts_nil fun σ H Q h => by
  obtain ⟨ρ, S, I, A, z, sl, p, S', e, k⟩ := h
  cases e
  exact k H I A .refl z
theorem w_ifs1 {t : BF} (h : WT X T Fr c t) : WTs X T Fr [c] t := L2.pts_one h
theorem w_comp {elt iter : Expr} {ifs : List Expr} {scope : Scope} {fe : EF} {g : GF} {it : IF} {t : BF} {W' : List Nat} (own : List (Str × Nat)) (hN : X.N.Nodup) (hi : WI X T Fr true tg iter it) (ok : L2.BlkOk X.N X.env.scope scope own)
    (hg : ∀ (s : Shared) (H : Hp) (C : Addr) (cl : List (Str × Addr)) (fp : List Addr), WG (X.blk s H scope (compEnvC scope cl C X.env) fp) T Fr (own.map (·.2)) (own.map (·.2)) W' tg g)
    (ht : ∀ (s : Shared) (H : Hp) (C : Addr) (cl : List (Str × Addr)) (fp : List Addr), WTs (X.blk s H scope (compEnvC scope cl C X.env) fp) T Fr ifs t)
    (he : ∀ (s : Shared) (H : Hp) (C : Addr) (cl : List (Str × Addr)) (fp : List Addr), WE (X.blk s H scope (compEnvC scope cl C X.env) fp) T Fr elt fe) (hW : W' = [] := by rfl) (hc : X.calm = true := by rfl)
    (hs : ∀ x, foldedSetIterable iter X.env x = pure x := by exact fun _ => rfl) : WE X T Fr (.ListComp elt [⟨tg, iter, ifs, 0⟩] scope pos) (eComp fe g it t) :=
  PE.weak (L2.pe_lc hc hN hi ok hg ht (fun s H C cl fp => peV (he s H C cl fp)) hs) fun σ H Q h => comb_comp hW h
theorem w_iZip {p tpos : Pos} {elts : List Expr} {kk : Nat} (hm : X.mg (Str.ofString "zip") = none) (ha : WE X T Fr a fa) (hb : WE X T Fr b fb) (hg : L2.Gl X (Str.ofString "zip") := by rfl) (hs : starEach [a, b] X.env = (false, eval a X.env) :: starEach [b] X.env := by rfl)
    (hs2 : starEach [b] X.env = (false, eval b X.env) :: starEach [] X.env := by rfl) (ht : ((backTo pos (starEach [b] X.env)).any fun x => x.fst) = false := by rfl) :
    WI X T Fr true (.Tuple elts kk tpos) (.Call (.Name (Str.ofString "zip") p) [a, b] [] pos) (iZip fa fb) :=
  PI.weak (RZ.pi_zipA hg hm (L2.pa_cons (peP ha) (L2.pa_cons (peP hb) L2.pa_nil hs2) hs) hs ht) fun σ H R h => by
    obtain ⟨ρ, S, I, A, z, sl, xs, S', e, k⟩ := h
    obtain ⟨⟨t, d⟩, S1, e1, ee⟩ := Res.bind_eq_ok e
    obtain ⟨⟨t2, d2⟩, S2, e2, ee2⟩ := Res.bind_eq_ok ee
    refine ⟨ρ, S, I, A, z, sl, _, _, e1, fun v H1 I1 A1 s1 z1 r1 => ⟨ρ, S1, I1, A1, z1, sl.step s1, _, _, e2, fun w H2 I2 A2 s2 z2 r2 => ?_⟩⟩
    have r1 := r1.step s2
    cases d with
    | lst ds =>
      cases d2 with
      | lst ds2 =>
        cases ee2
        obtain ⟨q, vs, rfl, hq, w1⟩ := st_lst true z2 (v := v) r1
        obtain ⟨q2, vs2, rfl, hq2, w2⟩ := st_lst true z2 (v := w) r2
        exact ⟨q, q2, vs, vs2, rfl, .inl ⟨hq, hq2, k _ H2 I2 A2 (s1.trans s2) z2 (wk_zip fun H I A S p z => ⟨w1 H I A S p z, w2 H I A S p z⟩)⟩⟩
      | _ => cases ee2
    | tup ds =>
      cases d2 with
      | tup ds2 =>
        cases ee2
        obtain ⟨q, vs, rfl, hq, w1⟩ := st_tup true z2 (v := v) r1
        obtain ⟨q2, vs2, rfl, hq2, w2⟩ := st_tup true z2 (v := w) r2
        exact ⟨q, q2, vs, vs2, rfl, .inr ⟨hq, hq2, k _ H2 I2 A2 (s1.trans s2) z2 (wk_zipT fun H I A S p z => ⟨w1 H I A S p z, w2 H I A S p z⟩)⟩⟩
      | _ => cases ee2
    | _ => cases ee2
theorem w_iZipK {p tpos : Pos} {elts : List Expr} {kk : Nat} (hm : X.mg (Str.ofString "zip") = none) (ha : WE X T Fr a fa) (hb : WE X T Fr b fb) (hg : L2.Gl X (Str.ofString "zip") := by rfl) (hs : starEach [a, b] X.env = (false, eval a X.env) :: starEach [b] X.env := by rfl)
    (hs2 : starEach [b] X.env = (false, eval b X.env) :: starEach [] X.env := by rfl) (ht : ((backTo pos (starEach [b] X.env)).any fun x => x.fst) = false := by rfl) :
    WI X T Fr false (.Tuple elts kk tpos) (.Call (.Name (Str.ofString "zip") p) [a, b] [] pos) (iZipK fa fb) :=
  PI.weak (RZ.pi_zipA hg hm (L2.pa_cons (peV ha) (L2.pa_cons (peV hb) L2.pa_nil hs2) hs) hs ht) fun σ H R h => by
    obtain ⟨ρ, S, I, A, z, sl, xs, S', e, k⟩ := h
    obtain ⟨⟨t, d⟩, S1, e1, e1'⟩ := Res.bind_eq_ok e
    obtain ⟨np, ee⟩ := kpb e1'
    obtain ⟨⟨t2, d2⟩, S2, e2, e2'⟩ := Res.bind_eq_ok ee
    obtain ⟨np2, ee2⟩ := kpb e2'
    refine ⟨ρ, S, I, A, z, sl, _, _, e1, np, fun v H1 I1 A1 s1 z1 r1 => ⟨ρ, S1, I1, A1, z1, sl.step s1, _, _, e2, np2, fun w H2 I2 A2 s2 z2 r2 => ?_⟩⟩
    have r1 := r1.step s2
    cases d with
    | lst ds =>
      cases d2 with
      | lst ds2 =>
        cases ee2
        obtain ⟨q, vs, rfl, hq, w1⟩ := st_lst false z2 (v := v) r1
        obtain ⟨q2, vs2, rfl, hq2, w2⟩ := st_lst false z2 (v := w) r2
        exact ⟨q, q2, vs, vs2, rfl, .inl ⟨hq, hq2, k _ H2 I2 A2 (s1.trans s2) z2 (wk_zip fun H I A S p z => ⟨w1 H I A S p z, w2 H I A S p z⟩)⟩⟩
      | _ => cases ee2
    | tup ds =>
      cases d2 with
      | tup ds2 =>
        cases ee2
        obtain ⟨q, vs, rfl, hq, w1⟩ := st_tup false z2 (v := v) r1
        obtain ⟨q2, vs2, rfl, hq2, w2⟩ := st_tup false z2 (v := w) r2
        exact ⟨q, q2, vs, vs2, rfl, .inr ⟨hq, hq2, k _ H2 I2 A2 (s1.trans s2) z2 (wk_zipT fun H I A S p z => ⟨w1 H I A S p z, w2 H I A S p z⟩)⟩⟩
      | _ => cases ee2
    | _ => cases ee2
end
end CC
end

section
/-! CcS12: statements. -/
namespace CC
open PySem PySem.Spec PyProof.Rows
open L2 (V HO Hp upd SqL SqT Vals upd_same upd_ne ne_of_none TE TT TA TS TI TG VK PE PT PW PA PS PSs PG PI Ends It OpR CallR MtR IxR SlR)
section
variable {Wr : Addr → Prop} {H I H1 I1 H2 I2 : Hp} {A A1 A2 : List Addr}
theorem Step.toS (s : Step H I A H1 I1 A1) : StepS Wr H I A H1 I1 A1 := ⟨fun a o h n _ => s.ext a o h n, s.dom, s.imm, fun a h => (s.new a h).elim .inl fun h => .inr (.inl h), s.cel⟩
theorem StepS.refl : StepS Wr H I A H I A := Step.refl.toS
theorem StepS.noneS (s : StepS Wr H I A H1 I1 A1) {a : Addr} (h : H1 a = none) : H a = none := by
  cases q : H a with
  | none => rfl
  | some o => exact absurd h (s.dom a (by rw [q]; simp))
theorem StepS.trans (s : StepS Wr H I A H1 I1 A1) (t : StepS Wr H1 I1 A1 H2 I2 A2) : StepS Wr H I A H2 I2 A2 := by
  obtain ⟨B, e, hB⟩ := s.cel
  obtain ⟨C, e2, hC⟩ := t.cel
  refine ⟨fun a o h ha hw => t.ext a o (s.ext a o h ha hw) ?_ hw, fun a h => t.dom a (s.dom a h), fun a o h => t.imm a o (s.imm a o h), fun a h => ?_, B ++ C, by rw [e2, e, List.append_assoc], fun a h => ?_⟩
  · rw [e, List.mem_append]
    rintro (z | z)
    · exact ha z
    · rw [hB a z] at h; cases h
  · rcases t.new a h with h | h | h
    · exact s.new a h
    · exact .inr (.inl (s.noneS h))
    · exact .inr (.inr h)
  · rcases List.mem_append.mp h with z | z
    · exact hB a z
    · exact s.noneS (hC a z)
theorem StepS.getA (s : StepS Wr H I A H1 I1 A1) {k : Nat} {a : Addr} (h : A[k]? = some a) : A1[k]? = some a := by
  obtain ⟨B, e, _⟩ := s.cel
  rw [e, List.getElem?_append_left (List.getElem?_eq_some_iff.mp h).1]; exact h
end
def EndOk (K : PySem.W.Frag) (T : Tab) (Fr : Nat → Addr → Prop) (D : Ends) (o : Out) (σ : L2.St) (H I : Hp) (A : List Addr) : Prop := match o with
  | .nx ρ => Slots K T Fr H I A [] ρ σ → D.nx σ H
  | .brk ρ => Slots K T Fr H I A [] ρ σ → D.bk σ H
  | .cont ρ => Slots K T Fr H I A [] ρ σ → D.ct σ H
  | .ret r ρ => Slots K T Fr H I A [] ρ σ → ∀ v, TagOk K T (fun a => ∃ i, Fr i a) H I A r v → D.rt v H
abbrev WrF (Fr : Nat → Addr → Prop) : Addr → Prop := fun a => ∃ i, Fr i a
abbrev FreshOk (Fr : Nat → Addr → Prop) (H : Hp) : Prop := ∀ (a : Addr) (i : Nat), 0 < i → H a = none → Fr i a
/-- a statement -/
def RdS (K : PySem.W.Frag) (T : Tab) (Fr : Nat → Addr → Prop) (f : SF) : TS := fun D σ H => ∃ ρ S I A, St0 K T H S I A ∧ Slots K T Fr H I A [] ρ σ ∧ FreshOk Fr H ∧ ∃ o S', f ρ S = .ok o S' ∧
  ∀ σ' H' I' A', StepS (WrF Fr) H I A H' I' A' → St0 K T H' S' I' A' → EndOk K T Fr D o σ' H' I' A'
abbrev WS (X : L2.Cx) (T : Tab) (Fr : Nat → Addr → Prop) (s : Stmt) (f : SF) : Prop := PS X s (RdS X.K T Fr f)
abbrev WSs (X : L2.Cx) (T : Tab) (Fr : Nat → Addr → Prop) (s : List Stmt) (f : SF) : Prop := PSs X s (RdS X.K T Fr f)
section
variable {K : PySem.W.Frag} {T : Tab} {Fr : Nat → Addr → Prop} {H I H' I' : Hp} {A A' : List Addr} {S S' : Sto} {ρ : Env} {σ : L2.St}
theorem FreshOk.step {Wr : Addr → Prop} (h : FreshOk Fr H) (s : StepS Wr H I A H' I' A') : FreshOk Fr H' := fun a i hi e => h a i hi (s.noneS e)
/-- a name's own thing is changed -/
theorem Slots.updO (h : Slots K T Fr H I A [] ρ σ) (z : St0 K T H S I A) {i : Nat} {d d' : D} {a : Addr} {o : HO} (e : ρ[i]? = some (.ow d)) (e2 : σ[i]? = some (some (.ref a))) (hc : OwnC K T (upd H a o) I A d' a) :
    Slots K T Fr (upd H a o) I A [] (ρ.set i (.ow d')) σ ∧ St0 K T (upd H a o) S I A ∧ StepS (WrF Fr) H I A (upd H a o) I A := by
  obtain ⟨a', q1, hI, hA, hF, ho⟩ := h.ow i d (by simp) e
  rw [e2] at q1; cases q1
  obtain ⟨u, hu⟩ := ho.there
  have hl : i < ρ.length := (List.getElem?_eq_some_iff.mp e).1
  refine ⟨⟨by rw [List.length_set, h.len], fun j x hj q => ?_, fun j x hj q => ?_, fun j k x y b hj hk hne p1 p2 p3 => ?_⟩, z.updO hI hA o, ⟨fun b u' hb nb nw => ?_, fun b hb => ?_, fun _ _ e => e, fun b hb => .inl hb, [], by simp, fun b hb => absurd hb (by simp)⟩⟩
  · by_cases hji : j = i
    · subst hji; rw [List.getElem?_set_self hl] at q; cases q
    · rw [List.getElem?_set_ne (Ne.symm hji)] at q
      exact h.sh j x (by simp) q
  · by_cases hji : j = i
    · subst hji; rw [List.getElem?_set_self hl] at q; cases q
      exact ⟨a, e2, hI, hA, hF, hc⟩
    · rw [List.getElem?_set_ne (Ne.symm hji)] at q
      obtain ⟨b, r1, r2, r3, r4, r5⟩ := h.ow j x (by simp) q
      have hb : b ≠ a := fun z => h.apart j i x d b (by simp) (by simp) hji q e r1 (by rw [z]; exact e2)
      refine ⟨b, r1, r2, r3, r4, ?_⟩
      cases x with
      | lst ds => obtain ⟨vs, w1, w2⟩ := r5; exact ⟨vs, by rw [upd_ne hb]; exact w1, w2⟩
      | dK ds => obtain ⟨vs, w1, w2⟩ := r5; exact ⟨vs, by rw [upd_ne hb]; exact w1, w2⟩
      | dT ds => obtain ⟨vs, w1, w2⟩ := r5; exact ⟨vs, by rw [upd_ne hb]; exact w1, w2⟩
      | obj c ds => obtain ⟨dx, vs, w1, w2⟩ := r5; exact ⟨dx, vs, by rw [upd_ne hb]; exact w1, w2⟩
      | _ => exact r5.elim
  · by_cases hji : j = i
    · subst hji
      have hki : k ≠ j := Ne.symm hne
      rw [List.getElem?_set_ne (Ne.symm hki)] at p2
      exact h.apart j k d y b (by simp) (by simp) hne e p2 p3
    · by_cases hki : k = i
      · subst hki
        rw [List.getElem?_set_ne (Ne.symm hji)] at p1
        exact h.apart j k x d b (by simp) (by simp) hne p1 e p3
      · rw [List.getElem?_set_ne (Ne.symm hji)] at p1
        rw [List.getElem?_set_ne (Ne.symm hki)] at p2
        exact h.apart j k x y b (by simp) (by simp) hne p1 p2 p3
  · have : b ≠ a := fun q => nw ⟨i, by rw [q]; exact hF⟩
    rw [upd_ne this]; exact hb
  · by_cases q : b = a
    · rw [q, upd_same]; simp
    · rw [upd_ne q]; exact hb
/-- names' own things are shared from now on -/
theorem Slots.frz1 (h : Slots K T Fr H I A [] ρ σ) (z : St0 K T H S I A) {i : Nat} {d : D} (e : ρ[i]? = some (.ow d)) :
    ∃ I2, St0 K T H S I2 A ∧ StepS (WrF Fr) H I A H I2 A ∧ Slots K T Fr H I2 A [] (ρ.set i (.sh d)) σ := by
  obtain ⟨a, e2, hI, hA, hF, ho⟩ := h.ow i d (by simp) e
  obtain ⟨I2, z2, im, nw, rp⟩ := ho.freeze z hI hA
  have hl : i < ρ.length := (List.getElem?_eq_some_iff.mp e).1
  refine ⟨I2, z2, ⟨fun b u hb nb nw => hb, fun b hb => hb, im, fun b hb => ?_, [], by simp, fun b hb => absurd hb (by simp)⟩, by rw [List.length_set, h.len], fun j x hj q => ?_, fun j x hj q => ?_, fun j k x y b hj hk hne p1 p2 p3 => ?_⟩
  · rcases nw b hb with q | q
    · exact .inl q
    · exact .inr (.inr ⟨i, by rw [q]; exact hF⟩)
  · by_cases hji : j = i
    · subst hji; rw [List.getElem?_set_self hl] at q; cases q
      exact ⟨_, e2, rp⟩
    · rw [List.getElem?_set_ne (Ne.symm hji)] at q
      obtain ⟨v, r1, r2⟩ := h.sh j x (by simp) q
      exact ⟨v, r1, Rep.mono im (fun _ _ e => e) _ _ r2⟩
  · by_cases hji : j = i
    · subst hji; rw [List.getElem?_set_self hl] at q; cases q
    · rw [List.getElem?_set_ne (Ne.symm hji)] at q
      obtain ⟨b, r1, r2, r3, r4, r5⟩ := h.ow j x (by simp) q
      have hb : b ≠ a := fun z => h.apart j i x d b (by simp) (by simp) hji q e r1 (by rw [z]; exact e2)
      refine ⟨b, r1, ?_, r3, r4, ?_⟩
      · cases q : I2 b with
        | none => rfl
        | some u =>
          rcases nw b (by rw [q]; simp) with w | w
          · exact absurd r2 w
          · exact absurd w hb
      · cases x with
        | lst ds => obtain ⟨vs, w1, w2⟩ := r5; exact ⟨vs, w1, Reps.mono im (fun _ _ e => e) _ _ w2⟩
        | dK ds => obtain ⟨vs, w1, w2⟩ := r5; exact ⟨vs, w1, RepK.mono im (fun _ _ e => e) _ _ w2⟩
        | dT ds => obtain ⟨vs, w1, w2⟩ := r5; exact ⟨vs, w1, RepT.mono im (fun _ _ e => e) _ _ w2⟩
        | obj c ds => obtain ⟨dx, vs, w1, wl, w2⟩ := r5; exact ⟨dx, vs, w1, wl, Reps.mono im (fun _ _ e => e) _ _ w2⟩
        | _ => exact r5.elim
  · by_cases hji : j = i
    · subst hji; rw [List.getElem?_set_self hl] at p1; cases p1
    · by_cases hki : k = i
      · subst hki; rw [List.getElem?_set_self hl] at p2; cases p2
      · rw [List.getElem?_set_ne (Ne.symm hji)] at p1
        rw [List.getElem?_set_ne (Ne.symm hki)] at p2
        exact h.apart j k x y b (by simp) (by simp) hne p1 p2 p3
theorem Slots.frz : ∀ (is : List Nat) {ρ : Env} {I : Hp} (h : Slots K T Fr H I A [] ρ σ) (z : St0 K T H S I A), ∃ I2, St0 K T H S I2 A ∧ StepS (WrF Fr) H I A H I2 A ∧ Slots K T Fr H I2 A [] (frzE is ρ) σ
  | [], ρ, I, h, z => ⟨I, z, .refl, h⟩
  | i :: is, ρ, I, h, z => by
    unfold frzE
    split
    · rename_i d e
      obtain ⟨I2, z2, s2, h2⟩ := h.frz1 z e
      obtain ⟨I3, z3, s3, h3⟩ := Slots.frz is h2 z2
      exact ⟨I3, z3, s2.trans s3, h3⟩
    · exact Slots.frz is h z
/-- a name is given what was made -/
theorem Slots.give (h : Slots K T Fr H I A [] ρ σ) {H0 : Hp} (hn : ∀ (a : Addr), H0 a = none → ∀ (i : Nat) (d : D) (b : Addr), ρ[i]? = some (.ow d) → σ[i]? = some (some (.ref b)) → b ≠ a) (hF : FreshOk Fr H0) {i : Nat} (hi : 0 < i) {r : Rr} {s : Sl} {v : V} (e : slOf true r = some s) (t : TagOk K T (fun a => H0 a = none) H I A r v) :
    Slots K T Fr H I A [] (ρ.set i s) (σ.set i (some v)) := by
  obtain ⟨g, d⟩ := r
  cases g with
  | sh => cases e; exact h.set t
  | ow =>
    cases e
    obtain ⟨a, rfl, hI, hA, hn0, o⟩ := t
    refine h.setO hI hA (hF a i hi hn0) o fun j e hj q1 q2 => hn a hn0 j e a q1 q2 rfl
  | pk => cases e
theorem Slots.oldOwn (h : Slots K T Fr H I A [] ρ σ) : ∀ (a : Addr), H a = none → ∀ (i : Nat) (d : D) (b : Addr), ρ[i]? = some (.ow d) → σ[i]? = some (some (.ref b)) → b ≠ a := by
  intro a ha i d b e e2 q
  obtain ⟨b', q1, hI, hA, hF, ho⟩ := h.ow i d (by simp) e
  rw [e2] at q1; cases q1
  obtain ⟨u, hu⟩ := ho.there
  rw [q, ha] at hu; cases hu
end
section
variable {X : L2.Cx} {T : Tab} {Fr : Nat → Addr → Prop} {a b c tg : Expr} {st : Stmt} {rest : List Stmt} {pos : Pos} {fa fb fc : EF} {sa sb : SF}
theorem w_sNil : WSs X T Fr [] sNil := PSs.weak L2.pss_nil fun D σ H h => by
  obtain ⟨ρ, S, I, A, z, sl, hF, o, S', e, k⟩ := h
  cases e
  exact k σ H I A .refl z sl
theorem w_sPass : WS X T Fr (.Pass pos) sNil := PS.weak L2.ps_pass fun D σ H h => by
  obtain ⟨ρ, S, I, A, z, sl, hF, o, S', e, k⟩ := h
  cases e
  exact k σ H I A .refl z sl
theorem w_sBrk : WS X T Fr (.Break pos) sBrk := PS.weak L2.ps_break fun D σ H h => by
  obtain ⟨ρ, S, I, A, z, sl, hF, o, S', e, k⟩ := h
  cases e
  exact k σ H I A .refl z sl
theorem w_sCont : WS X T Fr (.Continue pos) sCont := PS.weak L2.ps_continue fun D σ H h => by
  obtain ⟨ρ, S, I, A, z, sl, hF, o, S', e, k⟩ := h
  cases e
  exact k σ H I A .refl z sl
theorem w_sDead : WS X T Fr st sDead := ⟨fun pins s σ H D I h => by
  obtain ⟨ρ, S, I, A, z, sl, hF, o, S', e, k⟩ := h
  cases e⟩
theorem comb_seq {K : PySem.W.Frag} {D : Ends} {σ : L2.St} {H : Hp} (h : RdS K T Fr (sSeq sa sb) D σ H) : L2.tSeq (RdS K T Fr sa) (RdS K T Fr sb) D σ H := by
  obtain ⟨ρ, S, I, A, z, sl, hF, o, S', e, k⟩ := h
  obtain ⟨o1, S1, e1, e2⟩ := Res.bind_eq_ok e
  refine ⟨ρ, S, I, A, z, sl, hF, o1, S1, e1, fun σ1 H1 I1 A1 s1 z1 => ?_⟩
  cases o1 with
  | nx ρ1 => exact fun sl1 => ⟨ρ1, S1, I1, A1, z1, sl1, hF.step s1, o, S', e2, fun σ2 H2 I2 A2 s2 z2 => k σ2 H2 I2 A2 (s1.trans s2) z2⟩
  | brk ρ1 => cases e2; exact k σ1 H1 I1 A1 s1 z1
  | cont ρ1 => cases e2; exact k σ1 H1 I1 A1 s1 z1
  | ret r ρ1 => cases e2; exact k σ1 H1 I1 A1 s1 z1
theorem w_sSeq (ha : WS X T Fr st sa) (hb : WSs X T Fr rest sb) : WSs X T Fr (st :: rest) (sSeq sa sb) := PSs.weak (L2.pss_cons ha hb) fun _ _ _ => comb_seq
theorem w_sFrz {is : List Nat} (ha : WS X T Fr st sa) : WS X T Fr st (sFrz is sa) := PS.weak ha fun D σ H h => by
  obtain ⟨ρ, S, I, A, z, sl, hF, o, S', e, k⟩ := h
  obtain ⟨I2, z2, s2, sl2⟩ := sl.frz is z
  exact ⟨_, S, I2, A, z2, sl2, hF, o, S', e, fun σ1 H1 I1 A1 s1 z1 => k σ1 H1 I1 A1 (s2.trans s1) z1⟩
/-! ### assignments -/
theorem comb_asg {K : PySem.W.Frag} {g : GF} {vs W' : List Nat} {D : Ends} {σ : L2.St} {H : Hp} (hW : W' = []) (h : RdS K T Fr (sAsg g fa) D σ H) : L2.tAsg (RdV K T Fr fa) (RdG K T Fr vs [] W' g) D σ H := by
  subst hW
  obtain ⟨ρ, S, I, A, z, sl, hF, o, S', e, k⟩ := h
  obtain ⟨r, S1, e1, e2⟩ := Res.bind_eq_ok e
  obtain ⟨np, e3⟩ := kpb e2
  split at e3
  · rename_i ρ1 hρ
    cases e3
    exact ⟨ρ, S, I, A, z, sl, r, _, e1, np, fun v H1 I1 A1 s1 z1 r1 => ⟨r.2, ρ, _, I1, A1, z1, sl.step s1, r1, ρ1, hρ, fun σ' sl' _ => k σ' H1 I1 A1 s1.toS z1 sl'⟩⟩
  · cases e3
theorem w_asg {g : GF} {vs W' : List Nat} (ha : WE X T Fr a fa) (hg : WG X T Fr vs [] W' tg g) (hW : W' = [] := by rfl) (h1 : swapsWithSole [tg] a pos.line X.env = pure false := by rfl) (h2 : swappedStores [tg] a X.env = pure none := by rfl)
    (h3 : List.map (fun x => x.snd) (assignEach [tg] X.env) = [assign tg X.env] := by rfl) : WS X T Fr (.Assign [tg] a pos) (sAsg g fa) :=
  PS.weak (L2.ps_asg (peV ha) hg h1 h2 h3) fun _ _ _ => comb_asg hW
theorem comb_asgO {K : PySem.W.Frag} {i : Nat} {D : Ends} {σ : L2.St} {H : Hp} (hi : 0 < i) (h : RdS K T Fr (sAsgO i fa) D σ H) : RdE K T Fr fa σ H fun x H1 => D.nx (σ.set i (some x)) H1 := by
  obtain ⟨ρ, S, I, A, z, sl, hF, o, S', e, k⟩ := h
  obtain ⟨r, S1, e1, e2⟩ := Res.bind_eq_ok e
  split at e2
  · rename_i s hs
    cases e2
    exact ⟨ρ, S, I, A, z, sl, r, _, e1, fun v H1 I1 A1 s1 z1 t1 => k _ H1 I1 A1 s1.toS z1 ((sl.step s1).give (H0 := H) (fun a ha => sl.oldOwn a ha) hF hi hs t1)⟩
  · cases e2
theorem w_asgO {i : Nat} {x : Str} {p : Pos} (ha : WE X T Fr a fa) (hN : X.N.Nodup) (hx : X.N[i]? = some x := by rfl) (hi : 0 < i := by decide) (hl : L2.Loc X.env.scope x := by first | exact Or.inl rfl | exact Or.inr rfl)
    (hf : X.fn x = true ∨ List.lookup x X.env.scope.names = some NameKind.local := by first | exact Or.inl rfl | exact Or.inr rfl)
    (h1 : swapsWithSole [.Name x p] a pos.line X.env = pure false := by rfl) (h2 : swappedStores [.Name x p] a X.env = pure none := by rfl)
    (h3 : List.map (fun x => x.snd) (assignEach [.Name x p] X.env) = [assign (.Name x p) X.env] := by rfl) : WS X T Fr (.Assign [.Name x p] a pos) (sAsgO i fa) :=
  PS.weak (L2.ps_asg ha (L2.pg_name hN hx hl hf) h1 h2 h3) fun _ _ _ h => comb_asgO hi h
/-- a comprehension's value, stored in the block -/
theorem w_asgLc {i : Nat} {x : Str} {p lp : Pos} {elt iter : Expr} {ifs : List Expr} {scope : Scope} {fe : EF} {g : GF} {it : IF} {t : BF} {W' : List Nat} (own : List (Str × Nat)) (hN : X.N.Nodup) (hi : WI X T Fr true tg iter it) (ok : L2.BlkOk X.N X.env.scope scope own)
    (hg : ∀ (s : Shared) (H : Hp) (C : Addr) (cl : List (Str × Addr)) (fp : List Addr), WG (X.blk s H scope (compEnvC scope cl C X.env) fp) T Fr (own.map (·.2)) (own.map (·.2)) W' tg g)
    (ht : ∀ (s : Shared) (H : Hp) (C : Addr) (cl : List (Str × Addr)) (fp : List Addr), WTs (X.blk s H scope (compEnvC scope cl C X.env) fp) T Fr ifs t)
    (he : ∀ (s : Shared) (H : Hp) (C : Addr) (cl : List (Str × Addr)) (fp : List Addr), WE (X.blk s H scope (compEnvC scope cl C X.env) fp) T Fr elt fe) (hx : X.N[i]? = some x := by rfl) (hl : List.lookup x X.env.scope.names = some NameKind.local := by rfl)
    (hsw : swapsWith (.ListComp elt [⟨tg, iter, ifs, 0⟩] scope lp) (some (.Name x p)) pos.line X.env = pure true := by rfl) (hW : W' = [] := by rfl) (hc : X.calm = true := by rfl)
    (hs : ∀ x, foldedSetIterable iter X.env x = pure x := by exact fun _ => rfl) : WS X T Fr (.Assign [.Name x p] (.ListComp elt [⟨tg, iter, ifs, 0⟩] scope lp) pos) (sAsg (gN i) (eComp fe g it t)) :=
  PS.weak (L2.ps_setLc hc hN hx hl hsw hi ok hg ht (fun s H C cl fp => peV (he s H C cl fp)) hs) fun D σ H h => by
    obtain ⟨ρ, S, I, A, z, sl, hF, o, S', e, k⟩ := h
    obtain ⟨r, S1, e1, e2⟩ := Res.bind_eq_ok e
    obtain ⟨np, e3⟩ := kpb e2
    cases e3
    refine comb_comp (Q := fun v H' => D.nx (σ.set i (some v)) H') hW ⟨ρ, S, I, A, z, sl, r, _, e1, fun v H1 I1 A1 s1 z1 t1 => ?_⟩
    obtain ⟨I2, s2, z2, rp⟩ := t1.share s1 z1 (fun a h => h) np
    exact k _ H1 I2 A1 s2.toS z2 ((sl.step s2).set rp)
theorem w_asgOLc {i : Nat} {x : Str} {p lp : Pos} {elt iter : Expr} {ifs : List Expr} {scope : Scope} {fe : EF} {g : GF} {it : IF} {t : BF} {W' : List Nat} (own : List (Str × Nat)) (hN : X.N.Nodup) (hi : WI X T Fr true tg iter it) (ok : L2.BlkOk X.N X.env.scope scope own)
    (hg : ∀ (s : Shared) (H : Hp) (C : Addr) (cl : List (Str × Addr)) (fp : List Addr), WG (X.blk s H scope (compEnvC scope cl C X.env) fp) T Fr (own.map (·.2)) (own.map (·.2)) W' tg g)
    (ht : ∀ (s : Shared) (H : Hp) (C : Addr) (cl : List (Str × Addr)) (fp : List Addr), WTs (X.blk s H scope (compEnvC scope cl C X.env) fp) T Fr ifs t)
    (he : ∀ (s : Shared) (H : Hp) (C : Addr) (cl : List (Str × Addr)) (fp : List Addr), WE (X.blk s H scope (compEnvC scope cl C X.env) fp) T Fr elt fe) (hx : X.N[i]? = some x := by rfl) (hi0 : 0 < i := by decide) (hl : List.lookup x X.env.scope.names = some NameKind.local := by rfl)
    (hsw : swapsWith (.ListComp elt [⟨tg, iter, ifs, 0⟩] scope lp) (some (.Name x p)) pos.line X.env = pure true := by rfl) (hW : W' = [] := by rfl) (hc : X.calm = true := by rfl)
    (hs : ∀ x, foldedSetIterable iter X.env x = pure x := by exact fun _ => rfl) : WS X T Fr (.Assign [.Name x p] (.ListComp elt [⟨tg, iter, ifs, 0⟩] scope lp) pos) (sAsgO i (eComp fe g it t)) :=
  PS.weak (L2.ps_setLc hc hN hx hl hsw hi ok hg ht (fun s H C cl fp => peV (he s H C cl fp)) hs) fun D σ H h => comb_comp (Q := fun v H' => D.nx (σ.set i (some v)) H') hW (comb_asgO hi0 h)
end
end CC
end

section
/-! CcS13: more statements. -/
namespace CC
open PySem PySem.Spec PyProof.Rows
open L2 (V HO Hp upd SqL SqT Vals upd_same upd_ne ne_of_none TE TT TA TS TI TG VK PE PT PW PA PS PSs PG PI Ends It OpR CallR MtR IxR SlR)
section
variable {X : L2.Cx} {T : Tab} {Fr : Nat → Addr → Prop} {a b c tg : Expr} {st : Stmt} {rest : List Stmt} {pos : Pos} {fa fb fc : EF} {sa sb : SF}
/-! ### simple ones -/
theorem w_sEx (ha : WE X T Fr a fa) (h1 : swapsWith a none pos.line X.env = pure false := by rfl) : WS X T Fr (.Expr a pos) (sEx fa) := PS.weak (L2.ps_expr ha h1) fun D σ H h => by
  obtain ⟨ρ, S, I, A, z, sl, hF, o, S', e, k⟩ := h
  obtain ⟨r, S1, e1, e2⟩ := Res.bind_eq_ok e
  cases e2
  exact ⟨ρ, S, I, A, z, sl, r, _, e1, fun v H1 I1 A1 s1 z1 t1 => k σ H1 I1 A1 s1.toS z1 (sl.step s1)⟩
theorem w_sRet (ha : WE X T Fr a fa) : WS X T Fr (.Return (some a) pos) (sRet fa) := PS.weak (L2.ps_ret ha) fun D σ H h => by
  obtain ⟨ρ, S, I, A, z, sl, hF, o, S', e, k⟩ := h
  obtain ⟨r, S1, e1, e2⟩ := Res.bind_eq_ok e
  cases e2
  exact ⟨ρ, S, I, A, z, sl, r, _, e1, fun v H1 I1 A1 s1 z1 t1 => k σ H1 I1 A1 s1.toS z1 (sl.step s1) v (t1.wk fun a ha => ⟨1, hF a 1 (by decide) ha⟩)⟩
theorem w_sRetV {i : Nat} {x : Str} {p : Pos} (h : PE X (.Name x p) (L2.tVar i)) : WS X T Fr (.Return (some (.Name x p)) pos) (sRetV i) := PS.weak (L2.ps_ret h) fun D σ H h => by
  obtain ⟨ρ, S, I, A, z, sl, hF, o, S', e, k⟩ := h
  have e : (match ρ[i]? with
    | some (.sh d) => Res.ok (Out.ret (.sh, d) ρ) S
    | some (.ow d) => .ok (.ret (.ow, d) ρ) S
    | _ => .bad) = .ok o S' := e
  split at e
  · rename_i d hd
    cases e
    obtain ⟨v, e1, r⟩ := sl.sh i d (by simp) hd
    exact ⟨v, e1, k σ H I A .refl z sl v r⟩
  · rename_i d hd
    cases e
    obtain ⟨q, e1, hI, hA, hFr, ho⟩ := sl.ow i d (by simp) hd
    exact ⟨_, e1, k σ H I A .refl z sl _ ⟨q, rfl, hI, hA, ⟨i, hFr⟩, ho⟩⟩
  · cases e
theorem w_sRetN : WS X T Fr (.Return none pos) sRetN := PS.weak L2.ps_retN fun D σ H h => by
  obtain ⟨ρ, S, I, A, z, sl, hF, o, S', e, k⟩ := h
  cases e
  exact k σ H I A .refl z sl _ rfl
theorem w_sIf {t : BF} {p q : List Stmt} (hc : WT X T Fr c t) (ha : WSs X T Fr p sa) (hb : WSs X T Fr q sb) : WS X T Fr (.If c p q pos) (sIf t sa sb) := PS.weak (L2.ps_if hc ha hb) fun D σ H h => by
  obtain ⟨ρ, S, I, A, z, sl, hF, o, S', e, k⟩ := h
  obtain ⟨r, S1, e1, e2⟩ := Res.bind_eq_ok e
  refine ⟨ρ, S, I, A, z, sl, r, S1, e1, fun H1 I1 A1 s1 z1 => ?_⟩
  have kk : ∀ σ' H' I' A', StepS (WrF Fr) H1 I1 A1 H' I' A' → St0 X.K T H' S' I' A' → EndOk X.K T Fr D o σ' H' I' A' := fun σ2 H2 I2 A2 s2 z2 => k σ2 H2 I2 A2 (s1.toS.trans s2) z2
  cases r with
  | true => exact L2.iteT ⟨ρ, S1, I1, A1, z1, sl.step s1, hF.step (Wr := fun _ => False) s1.toS, o, S', e2, kk⟩
  | false => exact L2.iteF ⟨ρ, S1, I1, A1, z1, sl.step s1, hF.step (Wr := fun _ => False) s1.toS, o, S', e2, kk⟩
/-! ### loops -/
theorem PK.step {Wr : Addr → Prop} {I0 H I H' I' : Hp} {A0 A A' : List Addr} (h : PK I0 A0 H I A) (s : StepS Wr H I A H' I' A') : PK I0 A0 H' I' A' := ⟨fun a o e => s.imm a o (h.1 a o e), fun k a e => s.getA (h.2 k a e)⟩
theorem comb_for {K : PySem.W.Frag} {g : GF} {it : IF} {vs W' : List Nat} {D : Ends} {σ : L2.St} {H : Hp} (hW : W' = []) (h : RdS K T Fr (sFor g it sa) D σ H) : L2.tFor (RdI K T Fr false it) (RdG K T Fr vs [] W' g) (RdS K T Fr sa) D σ H := by
  subst hW
  obtain ⟨ρ, S, I, A, z, sl, hF, o, S', e, k⟩ := h
  obtain ⟨xs, S1, e1, e2⟩ := Res.bind_eq_ok e
  refine ⟨ρ, S, I, A, z, sl, xs, S1, e1, fun J H1 I1 A1 s1 z1 wk => ?_⟩
  let W : Nat → Nat → L2.St → Hp → Prop := fun i m σc Hc => m = xs.length - i ∧ i ≤ xs.length ∧ ∃ ρc Sc Ic Ac, St0 K T Hc Sc Ic Ac ∧ Slots K T Fr Hc Ic Ac [] ρc σc ∧ FreshOk Fr Hc ∧ PK I1 A1 Hc Ic Ac ∧ forL g sa (xs.drop i) ρc Sc = .ok o S' ∧
    ∀ σ' H' I' A', StepS (WrF Fr) Hc Ic Ac H' I' A' → St0 K T H' S' I' A' → EndOk K T Fr D o σ' H' I' A'
  refine ⟨W, ⟨xs.length, by simp, Nat.zero_le _, ρ, S1, I1, A1, z1, sl.step s1, hF.step (Wr := fun _ => False) s1.toS, ⟨fun _ _ e => e, fun _ _ e => e⟩, by simpa using e2, fun σ2 H2 I2 A2 s2 z2 => k σ2 H2 I2 A2 (s1.toS.trans s2) z2⟩, ?_⟩
  rintro i m σc Hc ⟨rfl, hi, ρc, Sc, Ic, Ac, zc, slc, hFc, pk, ec, kc⟩
  have w := wk Hc Ic Ac Sc i pk zc
  by_cases hie : xs.length ≤ i
  · refine .inl ⟨w.1 hie, ?_⟩
    rw [List.drop_eq_nil_of_le hie] at ec
    cases ec
    exact kc σc Hc Ic Ac .refl zc slc
  · have hlt : i < xs.length := by omega
    obtain ⟨hgo, hy⟩ := w.2 xs[i] (List.getElem?_eq_getElem hlt)
    refine .inr ⟨hgo, fun σ' H' => ∃ m', m' < xs.length - i ∧ W (i + 1) m' σ' H', fun σ' H' h => h, fun x H' hyl' => ?_⟩
    obtain ⟨I2, s2, z2, r2⟩ := hy x H' hyl'
    rw [List.drop_eq_getElem_cons hlt, forL] at ec
    split at ec
    · rename_i ρ1 hρ
      obtain ⟨o1, S2, e3, e4⟩ := Res.bind_eq_ok ec
      refine ⟨xs[i], ρc, Sc, I2, Ac, z2, slc.step s2, r2, ρ1, hρ, fun σ2 sl2 _ => ⟨ρ1, Sc, I2, Ac, z2, sl2, hFc.step (Wr := fun _ => False) s2.toS, o1, S2, e3, fun σ3 H3 I3 A3 s3 z3 => ?_⟩⟩
      have pk3 := pk.step (s2.toS.trans s3)
      have hF3 := hFc.step (s2.toS.trans s3)
      have kk : ∀ σ' H' I' A', StepS (WrF Fr) H3 I3 A3 H' I' A' → St0 K T H' S' I' A' → EndOk K T Fr D o σ' H' I' A' := fun σ4 H4 I4 A4 s4 z4 => kc σ4 H4 I4 A4 ((s2.toS.trans s3).trans s4) z4
      cases o1 with
      | nx ρ2 => exact fun sl3 => ⟨xs.length - (i + 1), by omega, rfl, hlt, ρ2, S2, I3, A3, z3, sl3, hF3, pk3, e4, kk⟩
      | cont ρ2 => exact fun sl3 => ⟨xs.length - (i + 1), by omega, rfl, hlt, ρ2, S2, I3, A3, z3, sl3, hF3, pk3, e4, kk⟩
      | brk ρ2 => cases e4; exact fun sl3 => kk σ3 H3 I3 A3 .refl z3 sl3
      | ret r ρ2 => cases e4; exact fun sl3 => kk σ3 H3 I3 A3 .refl z3 sl3
    · cases ec
theorem w_sFor {iter : Expr} {body : List Stmt} {g : GF} {it : IF} {vs W' : List Nat} (hi : WI X T Fr false tg iter it) (hg : WG X T Fr vs [] W' tg g) (hb : WSs X T Fr body sa) (hW : W' = [] := by rfl) (hp : PassesOwn (model X.prog X.w) X.A X.env X.xe := by exact PassesOwn.never) (hc : X.calm = true := by rfl)
    (hs : ∀ x, foldedSetIterable iter X.env x = pure x := by exact fun _ => rfl) : WS X T Fr (.For tg iter body [] pos) (sFor g it sa) :=
  PS.weak (L2.ps_for hp hc hi hg hb hs) fun _ _ _ h => comb_for hW h
theorem comb_while {K : PySem.W.Frag} {n : Nat} {t : BF} {D : Ends} {σ : L2.St} {H : Hp} (h : RdS K T Fr (sWhile n t sa) D σ H) : L2.tWhile (RdT K T Fr t) (RdS K T Fr sa) D σ H := by
  obtain ⟨ρ, S, I, A, z, sl, hF, o, S', e, k⟩ := h
  let W : Nat → L2.St → Hp → Prop := fun m σc Hc => ∃ ρc Sc Ic Ac, St0 K T Hc Sc Ic Ac ∧ Slots K T Fr Hc Ic Ac [] ρc σc ∧ FreshOk Fr Hc ∧ whL t sa m ρc Sc = .ok o S' ∧
    ∀ σ' H' I' A', StepS (WrF Fr) Hc Ic Ac H' I' A' → St0 K T H' S' I' A' → EndOk K T Fr D o σ' H' I' A'
  refine ⟨W, ⟨n, ρ, S, I, A, z, sl, hF, e, k⟩, ?_⟩
  rintro m σc Hc ⟨ρc, Sc, Ic, Ac, zc, slc, hFc, ec, kc⟩
  cases m with
  | zero => cases ec
  | succ m =>
    rw [whL] at ec
    obtain ⟨b, S1, e1, e2⟩ := Res.bind_eq_ok ec
    refine ⟨ρc, Sc, Ic, Ac, zc, slc, b, S1, e1, fun H1 I1 A1 s1 z1 => ?_⟩
    cases b with
    | false =>
      refine L2.iteF ?_
      cases (show Res.ok (Out.nx ρc) S1 = Res.ok o S' from e2)
      exact kc σc H1 I1 A1 s1.toS z1 (slc.step s1)
    | true =>
      refine L2.iteT ⟨fun σ' H' => ∃ m', m' < m + 1 ∧ W m' σ' H', fun σ' H' h => h, ?_⟩
      obtain ⟨o1, S2, e3, e4⟩ := Res.bind_eq_ok (show (sa ρc S1).bind _ = Res.ok o S' from e2)
      refine ⟨ρc, S1, I1, A1, z1, slc.step s1, hFc.step (Wr := fun _ => False) s1.toS, o1, S2, e3, fun σ3 H3 I3 A3 s3 z3 => ?_⟩
      have hF3 := hFc.step (s1.toS.trans s3)
      have kk : ∀ σ' H' I' A', StepS (WrF Fr) H3 I3 A3 H' I' A' → St0 K T H' S' I' A' → EndOk K T Fr D o σ' H' I' A' := fun σ4 H4 I4 A4 s4 z4 => kc σ4 H4 I4 A4 ((s1.toS.trans s3).trans s4) z4
      cases o1 with
      | nx ρ2 => exact fun sl3 => ⟨m, by omega, ρ2, S2, I3, A3, z3, sl3, hF3, e4, kk⟩
      | cont ρ2 => exact fun sl3 => ⟨m, by omega, ρ2, S2, I3, A3, z3, sl3, hF3, e4, kk⟩
      | brk ρ2 => cases e4; exact fun sl3 => kk σ3 H3 I3 A3 .refl z3 sl3
      | ret r ρ2 => cases e4; exact fun sl3 => kk σ3 H3 I3 A3 .refl z3 sl3
theorem w_sWhile {n : Nat} {t : BF} {body : List Stmt} (hc : WT X T Fr c t) (hb : WSs X T Fr body sa) (hp : PassesOwn (model X.prog X.w) X.A X.env X.xe := by exact PassesOwn.never) : WS X T Fr (.While c body [] pos) (sWhile n t sa) :=
  PS.weak (L2.ps_while hp hc hb) fun _ _ _ h => comb_while h
/-! ### x op= e -/
theorem iop_fdivW : OpR X (inplaceOp .FloorDiv) (L2.rI L2.CDivW fun i j => .int (i / j)) := L2.opI fun i j _ _ _ _ _ hc q => by
  have h1 : (0 : Int) < j := hc.1
  exact ifloordiv_int (by omega) (by rw [Int.fdiv_eq_ediv_of_nonneg i (by omega)]; exact q) (.inl (PyProof.noPylong_of_log2 hc.2))
def rAug : Op → L2.TIp
  | .add => L2.ipI fun i j => i + j
  | .sub => L2.ipI fun i j => i - j
  | .mul => L2.rI L2.CMul fun i j => .int (i * j)
  | .fdiv => L2.rI L2.CDivW fun i j => .int (i / j)
  | .mod => L2.rI (fun _ j => 0 < j) fun i j => .int (i % j)
  | .pow => fun _ _ _ _ => False
theorem ip_aug : ∀ op, L2.PIp X (opOf op) (rAug op)
  | .add => L2.ip_add
  | .sub => L2.ip_sub
  | .mul => L2.iop_mul
  | .fdiv => iop_fdivW
  | .mod => L2.iop_mod
  | .pow => fun _ _ _ _ _ _ _ _ _ _ _ _ h => h.elim
theorem aug_ok {op : Op} {d1 d2 d : D} {K : PySem.W.Frag} {H I : Hp} {A : List Addr} {x y : V} {Q : VK} (e : augR op d1 d2 = some d) (r1 : Rep K T I A d1 x) (r2 : RepC K T H I A d2 y) (q : ∀ i, d = .int i → Q (.int i) H) : rAug op x y H Q := by
  unfold augR at e
  split at e
  · cases e; cases r1; cases r2; exact ⟨_, _, rfl, rfl, q _ rfl⟩
  · cases e; cases r1; cases r2; exact ⟨_, _, rfl, rfl, q _ rfl⟩
  · split at e
    · rename_i h; cases e; cases r1; cases r2; exact ⟨_, _, rfl, rfl, h.imp Small.of Small.of, q _ rfl⟩
    · cases e
  · split at e
    · rename_i h; cases e; cases r1; cases r2; exact ⟨_, _, rfl, rfl, h, q _ rfl⟩
    · cases e
  · split at e
    · rename_i h; cases e; cases r1; cases r2; exact ⟨_, _, rfl, rfl, h, q _ rfl⟩
    · cases e
  · cases e
theorem w_sAug {op : Op} {i : Nat} {x : Str} {p : Pos} (ha : WE X T Fr a fa) (hN : X.N.Nodup) (hx : X.N[i]? = some x := by rfl) (hl : L2.Loc X.env.scope x := by first | exact Or.inl rfl | exact Or.inr rfl)
    (hf : X.fn x = true ∨ List.lookup x X.env.scope.names = some NameKind.local := by first | exact Or.inl rfl | exact Or.inr rfl) : WS X T Fr (.AugAssign (.Name x p) (opOf op) a pos) (sAug i op fa) :=
  PS.weak (L2.ps_aug hN hx hl (peP ha) (ip_aug op) hf) fun D σ H h => by
    obtain ⟨ρ, S, I, A, z, sl, hF, o, S', e, k⟩ := h
    have e : (match ρ[i]? with
      | some (.sh d) => (fa ρ S).bind fun r S => match augR op d r.2 with
        | some v => Res.ok (Out.nx (ρ.set i (.sh v))) S
        | none => .bad
      | _ => .bad) = .ok o S' := e
    split at e
    · rename_i d hd
      obtain ⟨r, S1, e1, e2⟩ := Res.bind_eq_ok e
      obtain ⟨v, hv, rv⟩ := sl.sh i d (by simp) hd
      refine ⟨v, hv, ρ, S, I, A, z, sl, r, S1, e1, fun y H1 I1 A1 s1 z1 r1 => ?_⟩
      split at e2
      · rename_i d2 h2
        cases e2
        refine aug_ok h2 (rv.step s1) r1 fun j ej => ?_
        subst ej
        exact k _ H1 I1 A1 s1.toS z1 ((sl.step s1).set (d := .int j) (v := .int j) rfl)
      · cases e2
    · cases e
end
end CC
end

section
/-! CcS14: stores to lists, fields, cells; several names at once. -/
namespace CC
open PySem PySem.Spec PyProof.Rows
open L2 (V HO Hp upd SqL SqT Vals upd_same upd_ne ne_of_none TE TT TA TS TI TG VK PE PT PW PA PS PSs PG PI Ends It OpR CallR MtR IxR SlR)
section
variable {X : L2.Cx} {T : Tab} {Fr : Nat → Addr → Prop} {a b c tg : Expr} {st : Stmt} {rest : List Stmt} {es : List Expr} {pos : Pos} {fa fb fc : EF} {sa sb : SF} {as : AF}
/-- an own list as it stands behind a step -/
theorem Slots.lst {K : PySem.W.Frag} {H I : Hp} {A : List Addr} {ρ : Env} {σ : L2.St} (sl : Slots K T Fr H I A [] ρ σ) {i : Nat} {xs : List D} (e : ρ[i]? = some (.ow (.lst xs))) :
    ∃ a vs, σ[i]? = some (some (.ref a)) ∧ H a = some (.lst vs) ∧ Reps K T I A xs vs := by
  obtain ⟨q, e1, hI, hA, hFr, vs, h1, h2⟩ := sl.ow i _ (by simp) e
  exact ⟨q, vs, e1, h1, h2⟩
theorem w_sAppend {i : Nat} {x : Str} {p p2 pe : Pos} (hv : PE X (.Name x p) (L2.tVar i)) (ha : WE X T Fr a fa) (hb : attributeBase (.Name x p) "append" X.env (eval (.Name x p) X.env) = eval (.Name x p) X.env := by rfl)
    (h1 : (((((backTo pe (starEach [a] X.env)).all fun x => !x.fst) && (backToKw pe (keywordEach [] X.env)).all fun x => x.fst.isSome) && decide (([a].length + ([] : List Keyword).length + if ([] : List Keyword).isEmpty = true then 0 else 1) < 30)) = true) := by rfl)
    (h2 : (p2.endLine == pe.line) = true := by rfl) (h3 : starEach [a] X.env = (false, eval a X.env) :: starEach [] X.env := by rfl) (h4 : ((backTo pe (starEach [] X.env)).any fun x => x.fst) = false := by rfl)
    (h5 : swapsWith (.Call (.Attribute (.Name x p) "append" p2) [a] [] pe) none pos.line X.env = pure false := by rfl) :
    WS X T Fr (.Expr (.Call (.Attribute (.Name x p) "append" p2) [a] [] pe) pos) (sAppend i fa) :=
  PS.weak (L2.ps_expr (L2.pe_bm PySem.F.plainAttrs_list PySem.F.slot_list_append PySem.F.type_list_append L2.mt_append hv (L2.pa_cons (peV ha) L2.pa_nil h3) hb h1 h2 h3 h4) h5) fun D σ H h => by
    obtain ⟨ρ, S, I, A, z, sl, hF, o, S', e, k⟩ := h
    have e : (match ρ[i]? with
      | some (.ow (.lst xs)) => (fa ρ S).bind fun r S => (kp r S).bind fun d S => if xs.length < szLine then Res.ok (Out.nx (ρ.set i (.ow (.lst (xs ++ [d]))))) S else .bad
      | _ => .bad) = .ok o S' := e
    split at e
    · rename_i xs hx
      obtain ⟨r, S1, e1, e2⟩ := Res.bind_eq_ok e
      obtain ⟨np, e3⟩ := kpb e2
      obtain ⟨hl, e4⟩ := if_inv e3
      cases e4
      obtain ⟨q, vs, hs, hq, rq⟩ := sl.lst hx
      refine ⟨_, hs, .inl ⟨rfl, vs, .of hq⟩, ρ, S, I, A, z, sl, r, _, e1, np, fun v H1 I1 A1 s1 z1 r1 => ?_⟩
      have sl1 := sl.step s1
      obtain ⟨q', vs', hs', hq', rq'⟩ := sl1.lst hx
      rw [hs] at hs'; cases hs'
      obtain ⟨sl2, z2, s2⟩ := sl1.updO z1 (d' := .lst (xs ++ [r.2])) (o := .lst (vs' ++ [v])) hx hs ⟨_, upd_same, rq'.append (.one r1)⟩
      exact ⟨q, vs', v, rfl, rfl, hq', by rw [rq'.length, ← szE]; exact hl, k σ _ _ _ (s1.toS.trans s2) z2 sl2⟩
    · cases e
theorem w_sSetIx {i : Nat} {x : Str} {p p2 : Pos} (hv : PE X (.Name x p) (L2.tVar i)) (hk : WE X T Fr b fb) (ha : WE X T Fr a fa)
    (h0 : ∀ (v : Value), assign (.Subscript (.Name x p) b p2) X.env v = (do
      let ov ← holding [v] (eval (.Name x p) X.env)
      let iv ← holding [v, ov] (eval b X.env)
      standAt p2
      holding [v, ov, iv] (setItem ov iv v)
      release [v, ov, iv] []) := by exact fun _ => rfl)
    (h1 : swapsWithSole [.Subscript (.Name x p) b p2] a pos.line X.env = pure false := by rfl) (h2 : swappedStores [.Subscript (.Name x p) b p2] a X.env = pure none := by rfl)
    (h3 : List.map (fun x => x.snd) (assignEach [.Subscript (.Name x p) b p2] X.env) = [assign (.Subscript (.Name x p) b p2) X.env] := by rfl) : WS X T Fr (.Assign [.Subscript (.Name x p) b p2] a pos) (sSetIx i fb fa) :=
  PS.weak (L2.ps_asg (peV ha) (L2.pg_sub hv (peP hk) L2.set_list h0) h1 h2 h3) fun D σ H h => by
    obtain ⟨ρ, S, I, A, z, sl, hF, o, S', e, k⟩ := h
    have e : (match ρ[i]? with
      | some (.ow (.lst xs)) => (fa ρ S).bind fun r S => (kp r S).bind fun d S => (fb ρ S).bind fun x S => match x.2 with
        | .int j => match ixN xs.length j with
          | some j => Res.ok (Out.nx (ρ.set i (.ow (.lst (xs.set j d))))) S
          | none => .bad
        | _ => .bad
      | _ => .bad) = .ok o S' := e
    split at e
    · rename_i xs hx
      obtain ⟨r, S1, e1, e2⟩ := Res.bind_eq_ok e
      obtain ⟨np, e3⟩ := kpb e2
      obtain ⟨⟨t, y⟩, S2, e4, e5⟩ := Res.bind_eq_ok e3
      refine ⟨ρ, S, I, A, z, sl, r, _, e1, np, fun v H1 I1 A1 s1 z1 r1 => ?_⟩
      have sl1 := sl.step s1
      obtain ⟨q, vs, hs, hq, rq⟩ := sl1.lst hx
      refine ⟨_, hs, ρ, S1, I1, A1, z1, sl1, _, _, e4, fun w H2 I2 A2 s2 z2 r2 => ?_⟩
      have sl2 := sl1.step s2
      obtain ⟨q', vs', hs', hq', rq'⟩ := sl2.lst hx
      rw [hs] at hs'; cases hs'
      cases y with
      | int j =>
        dsimp only at e5
        split at e5
        · rename_i j' hj
          cases e5
          have ew : w = .int j := r2
          subst ew
          obtain ⟨sl3, z3, s3⟩ := sl2.updO z2 (d' := .lst (xs.set j' r.2)) (o := .lst (vs'.set j' v)) hx hs ⟨_, upd_same, rq'.set _ (r1.step s2)⟩
          exact ⟨q, vs', j, j', rfl, rfl, hq', by rw [rq'.length]; exact hj, k σ _ _ _ ((s1.trans s2).toS.trans s3) z3 sl3⟩
        · cases e5
      | _ => cases e5
    · cases e
/-- a list's item at a place that is no less than 0 -/
theorem get_listP : L2.PGet X (fun x y H Q => ∃ p xs i v, x = .ref p ∧ y = .int i ∧ SqL X.K H p xs ∧ 0 ≤ i ∧ xs[i.toNat]? = some v ∧ Q v H) := by
  intro pins s σ H o i ov iv Q I ro ri h
  obtain ⟨p, xs, n, v, rfl, rfl, hs, h0, hv, q⟩ := h
  cases ro
  obtain ⟨t, rfl⟩ := ri
  obtain ⟨its, r, pl, hz⟩ := I.list hs
  obtain ⟨w, ew, rw'⟩ := r.get hv
  have hl := (List.getElem?_eq_some_iff.mp hv).1
  have hsz : sizeLine = 16777216 := by decide
  exact wpAny_getItem_list pl.isList h0 (by omega) (by simpa using ew) ⟨v, H, I, rw', q⟩
theorem aug_okS {op : Op} {d1 d2 d : D} {K : PySem.W.Frag} {H I : Hp} {A : List Addr} {x y : V} {Q : VK} (e : augR op d1 d2 = some d) (r1 : Rep K T I A d1 x) (r2 : RepC K T H I A d2 y) (q : ∀ v, Rep K T I A d v → Q v H) : rAug op x y H Q := aug_ok e r1 r2 fun i ei => q _ (by rw [ei]; rfl)
theorem w_sAugIx {op : Op} {i : Nat} {x : Str} {p p2 : Pos} (hv : PE X (.Name x p) (L2.tVar i)) (hk : WE X T Fr b fb) (ha : WE X T Fr a fa)
    (h0 : ∀ (ov iv new : Value), augStore b ov iv new = (do holding [new, ov, iv] (setItem ov iv new); release [new, ov, iv] []; pure Flow.next) := by intros; rfl) :
    WS X T Fr (.AugAssign (.Subscript (.Name x p) b p2) (opOf op) a pos) (sAugIx i op fb fa) :=
  PS.weak (L2.ps_augS hv (peP hk) get_listP (peP ha) (ip_aug op) L2.set_list h0) fun D σ H h => by
    obtain ⟨ρ, S, I, A, z, sl, hF, o, S', e, k⟩ := h
    unfold sAugIx at e
    split at e
    · rename_i xs hx
      obtain ⟨⟨t, y⟩, S1, e1, e2⟩ := Res.bind_eq_ok e
      obtain ⟨q, vs, hs, hq, rq⟩ := sl.lst hx
      refine ⟨_, hs, ρ, S, I, A, z, sl, _, _, e1, fun w H1 I1 A1 s1 z1 r1 => ?_⟩
      have sl1 := sl.step s1
      obtain ⟨q', vs1, hs1, hq1, rq1⟩ := sl1.lst hx
      rw [hs] at hs1; cases hs1
      cases y with
      | int j =>
        have ew : w = .int j := r1
        subst ew
        obtain ⟨h0, e3⟩ := if_inv (show (if 0 ≤ j then _ else Res.bad) = _ from e2)
        split at e3
        · rename_i d hd
          obtain ⟨v, hv, rv⟩ := rq1.get hd
          obtain ⟨r, S2, e4, e5⟩ := Res.bind_eq_ok e3
          refine ⟨q, vs1, j, v, rfl, rfl, .of hq1, h0, hv, ρ, S1, I1, A1, z1, sl1, r, _, e4, fun y H2 I2 A2 s2 z2 r2 => ?_⟩
          have sl2 := sl1.step s2
          obtain ⟨q', vs2, hs2, hq2, rq2⟩ := sl2.lst hx
          rw [hs] at hs2; cases hs2
          split at e5
          · rename_i d' hd'
            cases e5
            refine aug_okS hd' (rv.step s2) r2 fun v' rv' => ?_
            obtain ⟨sl3, z3, s3⟩ := sl2.updO z2 (d' := .lst (xs.set j.toNat d')) (o := .lst (vs2.set j.toNat v')) hx hs ⟨_, upd_same, rq2.set _ rv'⟩
            have hlt : j.toNat < xs.length := (List.getElem?_eq_some_iff.mp hd).1
            refine ⟨q, vs2, j, j.toNat, rfl, rfl, hq2, ?_, k σ _ _ _ ((s1.trans s2).toS.trans s3) z3 sl3⟩
            rw [rq2.length, ixN_eq]; unfold ixN; rw [if_pos h0, if_pos (by omega)]
          · cases e5
        · cases e3
      | _ => cases e2
    · cases e
/-- a cell is changed -/
theorem St0.updC {K : PySem.W.Frag} {H I : Hp} {A : List Addr} {S : Sto} (z : St0 K T H S I A) {c : Nat} {q : Addr} {ds : List D} {vs : List V} {d0 : D} (hq : A[c]? = some q) (hS : S[c]? = some d0) (r : Reps K T I A ds vs) : St0 K T (upd H q (.lst vs)) (S.set c (.lst ds)) I A := by
  obtain ⟨hI, _⟩ := z.cel c q d0 hq hS
  have hlS : c < S.length := (List.getElem?_eq_some_iff.mp hS).1
  refine ⟨fun b u e => ?_, by rw [List.length_set, z.len], z.nd, fun k b d h1 h2 => ?_⟩
  · have : b ≠ q := fun w => by rw [w, hI] at e; cases e
    rw [upd_ne this]; exact z.sub b u e
  · by_cases hk : k = c
    · subst hk
      rw [hq] at h1; cases h1
      rw [List.getElem?_set_self hlS] at h2; cases h2
      exact ⟨hI, ds, vs, rfl, upd_same, r⟩
    · rw [List.getElem?_set_ne (Ne.symm hk)] at h2
      obtain ⟨q1, ds', vs', q2, q3, q4⟩ := z.cel k b d h1 h2
      have : b ≠ q := fun w => hk ((List.getElem?_inj (List.getElem?_eq_some_iff.mp h1).1 z.nd).mp (by rw [h1, hq, w]))
      exact ⟨q1, ds', vs', q2, by rw [upd_ne this]; exact q3, q4⟩
theorem Slots.updC {K : PySem.W.Frag} {H I : Hp} {A : List Addr} {ρ : Env} {σ : L2.St} (h : Slots K T Fr H I A [] ρ σ) {q : Addr} (hq : q ∈ A) (o : HO) : Slots K T Fr (upd H q o) I A [] ρ σ := by
  refine ⟨h.len, h.sh, fun i d hi e => ?_, h.apart⟩
  obtain ⟨b, e1, hI, hA, hF, ho⟩ := h.ow i d hi e
  have hb : b ≠ q := fun w => hA (w ▸ hq)
  refine ⟨b, e1, hI, hA, hF, ?_⟩
  cases d with
  | lst ds => obtain ⟨vs, w1, w2⟩ := ho; exact ⟨vs, by rw [upd_ne hb]; exact w1, w2⟩
  | dK ds => obtain ⟨vs, w1, w2⟩ := ho; exact ⟨vs, by rw [upd_ne hb]; exact w1, w2⟩
  | dT ds => obtain ⟨vs, w1, w2⟩ := ho; exact ⟨vs, by rw [upd_ne hb]; exact w1, w2⟩
  | obj c ds => obtain ⟨dx, vs, w1, w2⟩ := ho; exact ⟨dx, vs, by rw [upd_ne hb]; exact w1, w2⟩
  | _ => exact ho.elim
theorem w_sAugCell {op : Op} {i : Nat} {x : Str} {p p2 : Pos} (hv : PE X (.Name x p) (L2.tVar i)) (hk : WE X T Fr b fb) (ha : WE X T Fr a fa)
    (h0 : ∀ (ov iv new : Value), augStore b ov iv new = (do holding [new, ov, iv] (setItem ov iv new); release [new, ov, iv] []; pure Flow.next) := by intros; rfl) :
    WS X T Fr (.AugAssign (.Subscript (.Name x p) b p2) (opOf op) a pos) (sAugCell i op fb fa) :=
  PS.weak (L2.ps_augS hv (peP hk) get_listP (peP ha) (ip_aug op) L2.set_list h0) fun D σ H h => by
    obtain ⟨ρ, S, I, A, z, sl, hF, o, S', e, k⟩ := h
    unfold sAugCell at e
    split at e
    · rename_i cc hx
      obtain ⟨⟨t, y⟩, S1, e1, e2⟩ := Res.bind_eq_ok e
      obtain ⟨v0, hs, rv0⟩ := sl.sh i _ (by simp) hx
      obtain ⟨q, rfl, hq⟩ := (show ∃ a, v0 = .ref a ∧ A[cc]? = some a from rv0)
      refine ⟨_, hs, ρ, S, I, A, z, sl, _, _, e1, fun w H1 I1 A1 s1 z1 r1 => ?_⟩
      have sl1 := sl.step s1
      have hq1 := s1.getA hq
      split at e2
      · rename_i j xs hj hS
        have ew : w = .int j := by
          have hj : y = .int j := hj
          subst hj
          exact r1
        subst ew
        obtain ⟨hI1, ds, vs1, eds, hH1, rr1⟩ := z1.cel cc q _ hq1 hS
        cases eds
        obtain ⟨h0, e3⟩ := if_inv e2
        split at e3
        · rename_i d hd
          obtain ⟨v, hv, rv⟩ := rr1.get hd
          obtain ⟨r, S2, e4, e5⟩ := Res.bind_eq_ok e3
          refine ⟨q, vs1, j, v, rfl, rfl, .of hH1, h0, hv, ρ, S1, I1, A1, z1, sl1, r, _, e4, fun y H2 I2 A2 s2 z2 r2 => ?_⟩
          have sl2 := sl1.step s2
          have hq2 := s2.getA hq1
          split at e5
          · rename_i ys d' hS2 hd'
            obtain ⟨hlt, e6⟩ := if_inv e5
            cases e6
            obtain ⟨hI2, ds2, vs2, eds2, hH2, rr2⟩ := z2.cel cc q _ hq2 hS2
            cases eds2
            refine aug_okS hd' (rv.step s2) r2 fun v' rv' => ?_
            have z3 := z2.updC hq2 hS2 (rr2.set j.toNat rv')
            refine ⟨q, vs2, j, j.toNat, rfl, rfl, hH2, ?_, k σ _ I2 A2 ?_ z3 (sl2.updC (List.mem_of_getElem? hq2) _)⟩
            · rw [rr2.length, ixN_eq]; unfold ixN; rw [if_pos h0, if_pos (by omega)]
            · refine (s1.trans s2).toS.trans ⟨fun b u hb nb nw => ?_, fun b hb => ?_, fun _ _ e => e, fun b hb => .inl hb, [], by simp, fun b hb => absurd hb (by simp)⟩
              · have : b ≠ q := fun w => nb (by rw [w]; exact List.mem_of_getElem? hq2)
                rw [upd_ne this]; exact hb
              · by_cases w : b = q
                · rw [w, upd_same]; simp
                · rw [upd_ne w]; exact hb
          · cases e5
        · cases e3
      · cases e2
    · cases e
/-! ### fields -/
theorem putF_zip : ∀ {ks : List Str} {vs : List V} {j : Nat} {x : Str} {v : V}, ks.Nodup → ks[j]? = some x → j < vs.length → L2.putF x v (ks.zip vs) = ks.zip (vs.set j v)
  | [], _, _, _, _, _, h, _ => by simp at h
  | _ :: _, [], _, _, _, _, _, h => by simp at h
  | k :: ks, w :: vs, 0, x, v, _, h1, h2 => by
    simp at h1; subst h1
    simp [L2.putF]
  | k :: ks, w :: vs, j + 1, x, v, nd, h1, h2 => by
    rw [List.nodup_cons] at nd
    have h1' : ks[j]? = some x := by simpa using h1
    have hx : k ≠ x := fun e => nd.1 (by rw [e]; exact List.mem_of_getElem? h1')
    rw [List.zip_cons_cons, List.set_cons_succ, List.zip_cons_cons]
    show (if k = x then _ else _) = _
    rw [if_neg hx, putF_zip nd.2 h1' (by simpa using h2)]
theorem putF_zip2 : ∀ {ks : List Str} {vs : List V} {x : Str} {v : V}, ks.Nodup → ks[vs.length]? = some x → L2.putF x v (ks.zip vs) = ks.zip (vs ++ [v])
  | [], _, _, _, _, h => by simp at h
  | k :: ks, [], x, v, _, h1 => by
    simp at h1; subst h1
    simp [L2.putF]
  | k :: ks, w :: vs, x, v, nd, h1 => by
    rw [List.nodup_cons] at nd
    have h1' : ks[vs.length]? = some x := by simpa using h1
    have hx : k ≠ x := fun e => nd.1 (by rw [e]; exact List.mem_of_getElem? h1')
    rw [List.zip_cons_cons, List.cons_append, List.zip_cons_cons]
    show (if k = x then _ else _) = _
    rw [if_neg hx, putF_zip2 nd.2 h1']
theorem w_sSetFl {i f : Nat} {x y : Str} {p p2 : Pos} (ht : TabOk X.K T) (hy : T.nm f = y) (hv : PE X (.Name x p) (L2.tVar i)) (ha : WE X T Fr a fa)
    (h1 : swapsWith a (some (.Attribute (.Name x p) y p2)) pos.line X.env = pure false := by rfl) : WS X T Fr (.Assign [.Attribute (.Name x p) y p2] a pos) (sSetFl T.fs i f fa) :=
  PS.weak (L2.ps_fld hv (peV ha) h1) fun D σ H h => by
    obtain ⟨ρ, S, I, A, z, sl, hF, o, S', e, k⟩ := h
    unfold sSetFl at e
    split at e
    · rename_i cc ds hx
      obtain ⟨r, S1, e1, e2⟩ := Res.bind_eq_ok e
      obtain ⟨np, e3⟩ := kpb e2
      refine ⟨ρ, S, I, A, z, sl, r, _, e1, np, fun v H1 I1 A1 s1 z1 r1 => ?_⟩
      have sl1 := sl.step s1
      obtain ⟨q, hs, hI, hA, hFr, dx, vs, hq, hl, rq⟩ := sl1.ow i _ (by simp) hx
      split at e3
      · rename_i j hj
        have hm : f ∈ T.fs cc := List.mem_of_getElem? (place_some hj)
        have hk : (T.fl cc)[j]? = some y := by unfold Tab.fl; rw [List.getElem?_map, place_some hj]; exact congrArg some hy
        have hlj : j < (T.fl cc).length := (List.getElem?_eq_some_iff.mp hk).1
        have na := hy ▸ ht.na cc f hm
        refine ⟨_, hs, q, _, dx, _, rfl, hq, ht.cl cc f hm, na, ?_⟩
        by_cases hjl : j < ds.length ∧ ds.length < 900
        · rw [if_pos hjl] at e3
          cases e3
          have hb : ∀ w, (L2.putF y v ((T.fl cc).zip vs)).length = w → ((T.fl cc).zip vs).length < 1000 := fun _ _ => by rw [List.length_zip, rq.length]; omega
          rw [putF_zip (ht.nd cc) hk (by rw [rq.length]; exact hjl.1)]
          obtain ⟨sl2, z2, s2⟩ := sl1.updO z1 (d' := .obj cc (ds.set j r.2)) (o := .ins (T.ca cc) dx ((T.fl cc).zip (vs.set j v))) hx hs ⟨dx, _, upd_same, by rw [List.length_set]; exact hl, rq.set _ r1⟩
          exact ⟨hb _ rfl, k σ _ _ _ (s1.toS.trans s2) z2 sl2⟩
        · rw [if_neg hjl] at e3
          obtain ⟨⟨hj2, hj9⟩, e4⟩ := if_inv e3
          cases e4
          have hjv : j = vs.length := by rw [rq.length]; exact hj2
          rw [hjv] at hk hlj hj9
          rw [putF_zip2 (ht.nd cc) hk]
          obtain ⟨sl2, z2, s2⟩ := sl1.updO z1 (d' := .obj cc (ds ++ [r.2])) (o := .ins (T.ca cc) dx ((T.fl cc).zip (vs ++ [v]))) hx hs ⟨dx, _, upd_same, by rw [List.length_append]; exact hlj, rq.append (.one r1)⟩
          exact ⟨by rw [List.length_zip]; omega, k σ _ _ _ (s1.toS.trans s2) z2 sl2⟩
      · cases e3
    · cases e
end
end CC
end

section
/-! CcS15: several names at once; defs. -/
namespace CC
open PySem PySem.Spec PyProof.Rows
open L2 (V HO Hp upd SqL SqT Vals upd_same upd_ne ne_of_none TE TT TA TS TI TG VK PE PT PW PA PS PSs PG PI Ends It OpR CallR MtR IxR SlR FunD)
def TagsOk (K : PySem.W.Frag) (T : Tab) (H I : Hp) (A : List Addr) : (Addr → Prop) → List Rr → List V → Prop
  | _, [], vs => vs = []
  | N, r :: rs, vs => ∃ v w, vs = v :: w ∧ TagOk K T N H I A r v ∧ TagsOk K T H I A (fun a => N a ∧ (r.1 = .ow → V.ref a ≠ v)) rs w
def RdAT (K : PySem.W.Frag) (T : Tab) (Fr : Nat → Addr → Prop) (f : RF) : TA := fun σ H Q => ∃ ρ S I A, St0 K T H S I A ∧ Slots K T Fr H I A [] ρ σ ∧ ∃ r S', f ρ S = .ok r S' ∧
  ∀ v H' I' A', Step H I A H' I' A' → St0 K T H' S' I' A' → TagsOk K T H' I' A' (fun a => H a = none) r v → Q v H'
abbrev WR (X : L2.Cx) (T : Tab) (Fr : Nat → Addr → Prop) (e : List Expr) (f : RF) : Prop := PA X e (RdAT X.K T Fr f)
section
variable {K : PySem.W.Frag} {T : Tab} {H I H' I' : Hp} {A A' : List Addr} {S S' : Sto}
theorem TagOk.step (s : Step H I A H' I' A') {N : Addr → Prop} {r : Rr} {v : V} (h : TagOk K T N H I A r v) : TagOk K T N H' I' A' r v := by
  obtain ⟨t, d⟩ := r
  cases t with
  | sh => exact Rep.step s h
  | pk => exact RepC.step s h
  | ow =>
    obtain ⟨a, rfl, hI, hA, hn, o⟩ := h
    obtain ⟨u, hu⟩ := o.there
    obtain ⟨_, k2, k3⟩ := s.keepO hu hI hA
    exact ⟨a, rfl, k2, k3, hn, o.step s hA⟩
theorem TagsOk.step (s : Step H I A H' I' A') : ∀ {rs : List Rr} {N : Addr → Prop} {vs : List V}, TagsOk K T H I A N rs vs → TagsOk K T H' I' A' N rs vs
  | [], _, _, h => h
  | r :: rs, N, vs, h => by
    obtain ⟨v, w, rfl, h1, h2⟩ := (show ∃ v w, vs = v :: w ∧ TagOk K T N H I A r v ∧ TagsOk K T H I A (fun a => N a ∧ (r.1 = .ow → V.ref a ≠ v)) rs w from h)
    exact ⟨v, w, rfl, h1.step s, TagsOk.step s h2⟩
theorem TagsOk.wk : ∀ {rs : List Rr} {N N' : Addr → Prop} {vs : List V}, (∀ a, N a → N' a) → TagsOk K T H I A N rs vs → TagsOk K T H I A N' rs vs
  | [], _, _, _, _, h => h
  | r :: rs, N, N', vs, hn, h => by
    obtain ⟨v, w, rfl, h1, h2⟩ := (show ∃ v w, vs = v :: w ∧ TagOk K T N H I A r v ∧ TagsOk K T H I A (fun a => N a ∧ (r.1 = .ow → V.ref a ≠ v)) rs w from h)
    exact ⟨v, w, rfl, h1.wk hn, TagsOk.wk (fun a q => ⟨hn a q.1, q.2⟩) h2⟩
theorem TagsOk.len : ∀ {rs : List Rr} {N : Addr → Prop} {vs : List V}, TagsOk K T H I A N rs vs → vs.length = rs.length
  | [], _, _, h => by have e : _ = [] := h; rw [e]; rfl
  | r :: rs, N, vs, h => by
    obtain ⟨v, w, rfl, h1, h2⟩ := (show ∃ v w, vs = v :: w ∧ TagOk K T N H I A r v ∧ TagsOk K T H I A (fun a => N a ∧ (r.1 = .ow → V.ref a ≠ v)) rs w from h)
    rw [List.length_cons, List.length_cons, TagsOk.len h2]
def setAll : L2.St → List Nat → List V → L2.St
  | σ, i :: is, v :: vs => setAll (σ.set i (some v)) is vs
  | σ, _, _ => σ
theorem TagsOk.imm {I2 : Hp} {N : Addr → Prop} {a0 : Addr} (im : ∀ a o, I a = some o → I2 a = some o) (nw : ∀ b, I2 b ≠ none → I b ≠ none ∨ b = a0) : ∀ {rs : List Rr} {N : Addr → Prop} {vs : List V}, (∀ a, N a → a ≠ a0) → (∀ r v, TagOk K T (fun a => a ≠ a0) H I A r v → TagOk K T (fun a => a ≠ a0) H I2 A r v) →
    TagsOk K T H I A N rs vs → TagsOk K T H I2 A N rs vs
  | [], _, _, _, _, h => h
  | r :: rs, N, vs, hn, hk, h => by
    obtain ⟨v, w, rfl, h1, h2⟩ := (show ∃ v w, vs = v :: w ∧ TagOk K T N H I A r v ∧ TagsOk K T H I A (fun a => N a ∧ (r.1 = .ow → V.ref a ≠ v)) rs w from h)
    refine ⟨v, w, rfl, ?_, TagsOk.imm (N := N) im nw (fun a q => hn a q.1) hk h2⟩
    have h3 := hk r v (h1.wk hn)
    obtain ⟨t, d⟩ := r
    cases t with
    | sh => exact h3
    | pk => exact h3
    | ow =>
      obtain ⟨a, rfl, hI, hA, hn', o⟩ := h1
      obtain ⟨a', e, hI', hA', _, o'⟩ := h3
      cases e
      exact ⟨a, rfl, hI', hA', hn', o'⟩
theorem TagOk.imm {I2 : Hp} {a0 : Addr} (im : ∀ a o, I a = some o → I2 a = some o) (nw : ∀ b, I2 b ≠ none → I b ≠ none ∨ b = a0) {r : Rr} {v : V} (h : TagOk K T (fun a => a ≠ a0) H I A r v) : TagOk K T (fun a => a ≠ a0) H I2 A r v := by
  obtain ⟨t, d⟩ := r
  have s : Step H I A H I2 A → False → False := fun _ h => h
  have mR := fun (ds : List D) (vs : List V) (q : Reps K T I A ds vs) => Reps.mono (A' := A) im (fun _ _ e => e) ds vs q
  cases t with
  | sh => exact Rep.mono im (fun _ _ e => e) _ _ h
  | pk =>
    cases d with
    | lst ds => obtain ⟨a, vs, h1, h2, h3, h4⟩ := h; exact ⟨a, vs, h1, h2, mR _ _ h3, h4⟩
    | dK ds => obtain ⟨a, vs, h1, h2, h3, h4⟩ := h; exact ⟨a, vs, h1, h2, RepK.mono im (fun _ _ e => e) _ _ h3, h4⟩
    | dT ds => obtain ⟨a, vs, h1, h2, h3, h4⟩ := h; exact ⟨a, vs, h1, h2, RepT.mono im (fun _ _ e => e) _ _ h3, h4⟩
    | obj c ds => obtain ⟨a, dx, vs, h1, h2, h3, h4, h5⟩ := h; exact ⟨a, dx, vs, h1, h2, h3, mR _ _ h4, h5⟩
    | non => exact h
    | bl b => exact h
    | int b => exact h
    | str b => exact h
    | tup ds => exact Rep.mono im (fun _ _ e => e) (.tup ds) v h
    | cel k => exact h
    | fn k cl => exact h
    | scr ns => exact Rep.mono (T := T) (A := A) (A' := A) im (fun _ _ e => e) (.scr ns) v h
  | ow =>
    obtain ⟨a, rfl, hI, hA, hn, o⟩ := h
    refine ⟨a, rfl, ?_, hA, hn, ?_⟩
    · cases q : I2 a with
      | none => rfl
      | some u =>
        rcases nw a (by rw [q]; simp) with w | w
        · exact absurd hI w
        · exact absurd w hn
    · cases d with
      | lst ds => obtain ⟨vs, h2, h3⟩ := o; exact ⟨vs, h2, mR _ _ h3⟩
      | dK ds => obtain ⟨vs, h2, h3⟩ := o; exact ⟨vs, h2, RepK.mono im (fun _ _ e => e) _ _ h3⟩
      | dT ds => obtain ⟨vs, h2, h3⟩ := o; exact ⟨vs, h2, RepT.mono im (fun _ _ e => e) _ _ h3⟩
      | obj c ds => obtain ⟨dx, vs, h2, h3, h4⟩ := o; exact ⟨dx, vs, h2, h3, mR _ _ h4⟩
      | _ => exact o.elim
theorem par_ok {Fr : Nat → Addr → Prop} : ∀ (is : List (Nat × Bool)) (rs : List Rr) (ρ ρ' : Env) (σ : L2.St) (vs : List V) (I : Hp) (N : Addr → Prop), St0 K T H S I A → Slots K T Fr H I A [] ρ σ → TagsOk K T H I A N rs vs →
    (∀ a i, 0 < i → N a → Fr i a) → (∀ (a : Addr), N a → ∀ (i : Nat) (d : D) (b : Addr), ρ[i]? = some (.ow d) → σ[i]? = some (some (.ref b)) → b ≠ a) → (∀ p ∈ is, 0 < p.1 ∨ p.2 = false) → parE is rs ρ = some ρ' →
    ∃ I2, St0 K T H S I2 A ∧ StepS (WrF Fr) H I A H I2 A ∧ Slots K T Fr H I2 A [] ρ' (setAll σ (is.map (·.1)) vs)
  | [], [], ρ, ρ', σ, vs, I, N, z, sl, tg, hF, hn, hp, e => by
    cases e
    have ev : vs = [] := tg
    subst ev
    exact ⟨I, z, .refl, sl⟩
  | [], r :: rs, ρ, ρ', σ, vs, I, N, z, sl, tg, hF, hn, hp, e => by cases e
  | (i, b) :: is, [], ρ, ρ', σ, vs, I, N, z, sl, tg, hF, hn, hp, e => by cases e
  | (i, b) :: is, (t, d) :: rs, ρ, ρ', σ, vs, I, N, z, sl, tg, hF, hn, hp, e => by
    obtain ⟨v, w, rfl, h1, h2⟩ := (show ∃ v w, vs = v :: w ∧ TagOk K T N H I A (t, d) v ∧ TagsOk K T H I A (fun a => N a ∧ ((t, d).1 = .ow → V.ref a ≠ v)) rs w from tg)
    obtain ⟨s, hs, e⟩ := Option.bind_eq_some_iff.mp (show (slOf b (t, d)).bind (fun s => parE is rs (ρ.set i s)) = some ρ' from e)
    have own_set : ∀ (x : Sl) (u : Option V), (∀ dd, x ≠ .ow dd) → ∀ (a : Addr), N a → ∀ (j : Nat) (d : D) (bb : Addr), (ρ.set i x)[j]? = some (.ow d) → (σ.set i u)[j]? = some (some (.ref bb)) → bb ≠ a := by
      intro x u hx a ha j d bb q1 q2
      by_cases hji : j = i
      · subst hji
        have hl : j < ρ.length := by have := (List.getElem?_eq_some_iff.mp q1).1; rw [List.length_set] at this; exact this
        rw [List.getElem?_set_self hl] at q1
        exact absurd (Option.some.inj q1) (hx d)
      · rw [List.getElem?_set_ne (Ne.symm hji)] at q1 q2
        exact hn a ha j d bb q1 q2
    cases t with
    | sh =>
      cases hs
      exact par_ok is rs _ ρ' _ w I _ z (sl.set (d := d) h1) h2 (fun a i hi q => hF a i hi q.1) (fun a q => own_set _ _ (by intro dd; simp) a q.1) (fun p hp' => hp p (List.mem_cons_of_mem _ hp')) e
    | pk => cases hs
    | ow =>
      obtain ⟨a0, rfl, hI, hA, hn0, o⟩ := h1
      cases b with
      | true =>
        cases hs
        have hi : 0 < i := (hp (i, true) List.mem_cons_self).resolve_right (by simp)
        have sl2 := sl.setO (i := i) hI hA (hF a0 i hi hn0) o fun j e hj q1 q2 => hn a0 hn0 j e a0 q1 q2 rfl
        refine par_ok is rs _ ρ' _ w I _ z sl2 h2 (fun a i hi q => hF a i hi q.1) (fun a q j d' bb q1 q2 => ?_) (fun p hp' => hp p (List.mem_cons_of_mem _ hp')) e
        by_cases hji : j = i
        · subst hji
          have hl : j < σ.length := by have := (List.getElem?_eq_some_iff.mp q2).1; rw [List.length_set] at this; exact this
          rw [List.getElem?_set_self hl] at q2
          cases q2
          exact fun q' => q.2 rfl (by rw [q'])
        · rw [List.getElem?_set_ne (Ne.symm hji)] at q1 q2
          exact hn a q.1 j d' bb q1 q2
      | false =>
        cases hs
        obtain ⟨I2, z2, im, nw, rp⟩ := o.freeze z hI hA
        have h2' : TagsOk K T H I2 A (fun a => N a ∧ V.ref a ≠ V.ref a0) rs w := TagsOk.imm (N := N) im nw (fun a q w => q.2 (by rw [w])) (fun r v h => TagOk.imm im nw h) (h2.wk fun a q => ⟨q.1, q.2 rfl⟩)
        -- the slots with I2
        have slI : Slots K T Fr H I2 A [] ρ σ := by
          refine ⟨sl.len, fun j x hj q => ?_, fun j x hj q => ?_, sl.apart⟩
          · obtain ⟨v, r1, r2⟩ := sl.sh j x hj q
            exact ⟨v, r1, Rep.mono im (fun _ _ e => e) _ _ r2⟩
          · obtain ⟨b, r1, r2, r3, r4, r5⟩ := sl.ow j x hj q
            have hb : b ≠ a0 := hn a0 hn0 j x b q r1
            have t3 : TagOk K T (fun a => a ≠ a0) H I2 A (.ow, x) (.ref b) := TagOk.imm im nw (r := (.ow, x)) ⟨b, rfl, r2, r3, hb, r5⟩
            obtain ⟨b', eb, k1, k2, k3, k4⟩ := t3
            cases eb
            exact ⟨b, r1, k1, r3, r4, k4⟩
        obtain ⟨I3, z3, s3, sl3⟩ := par_ok is rs _ ρ' _ w I2 _ z2 (slI.set (i := i) (d := d) rp) h2' (fun a i hi q => hF a i hi q.1) (fun a q => own_set _ _ (by intro dd; simp) a q.1) (fun p hp' => hp p (List.mem_cons_of_mem _ hp')) e
        refine ⟨I3, z3, StepS.trans ⟨fun b u hb nb nw => hb, fun b hb => hb, im, fun b hb => ?_, [], by simp, fun b hb => absurd hb (by simp)⟩ s3, sl3⟩
        rcases nw b hb with q | q
        · exact .inl q
        · exact .inr (.inr ⟨1, hF b 1 (by decide) (by rw [q]; exact hn0)⟩)
end
section
variable {X : L2.Cx} {T : Tab} {Fr : Nat → Addr → Prop} {a b c tg : Expr} {st : Stmt} {rest : List Stmt} {es : List Expr} {pos : Pos} {fa fb fc : EF} {sa sb : SF} {as : AF} {rs : RF}
theorem w_rNil : WR X T Fr [] rNil := PA.weak L2.pa_nil fun σ H Q h => by
  obtain ⟨ρ, S, I, A, z, sl, p, S', e, k⟩ := h
  cases e
  exact k [] H I A .refl z rfl
theorem w_rCons (ha : WE X T Fr a fa) (hr : WR X T Fr es rs) (hs : starEach (a :: es) X.env = (false, eval a X.env) :: starEach es X.env := by rfl) : WR X T Fr (a :: es) (rCons fa rs) :=
  PA.weak (L2.pa_cons ha hr hs) fun σ H Q h => by
    obtain ⟨ρ, S, I, A, z, sl, p, S', e, k⟩ := h
    obtain ⟨x, S1, e1, e⟩ := Res.bind_eq_ok e
    obtain ⟨xs, S3, e3, e⟩ := Res.bind_eq_ok e
    cases e
    refine ⟨ρ, S, I, A, z, sl, x, _, e1, fun v H1 I1 A1 s1 z1 r1 => ⟨ρ, _, I1, A1, z1, sl.step s1, xs, _, e3, fun vs H2 I2 A2 s2 z2 r2 => k _ H2 I2 A2 (s1.trans s2) z2 ⟨v, vs, rfl, r1.step s2, r2.wk fun a ha => ⟨s1.none ha, fun ho q => ?_⟩⟩⟩⟩
    obtain ⟨t, d⟩ := x
    cases ho
    obtain ⟨a', e', _, _, _, o⟩ := r1
    rw [e'] at q
    cases q
    obtain ⟨u, hu⟩ := o.there
    rw [ha] at hu; cases hu
theorem comb_par {K : PySem.W.Frag} {is : List (Nat × Bool)} {D : Ends} {σ : L2.St} {H : Hp} (hp : ∀ p ∈ is, 0 < p.1 ∨ p.2 = false) (h : RdS K T Fr (sPar is rs) D σ H) :
    RdAT K T Fr rs σ H fun vs H1 => vs.length = is.length ∧ D.nx (setAll σ (is.map (·.1)) vs) H1 ∧ ∀ p o, H1 p = none → D.nx (setAll σ (is.map (·.1)) vs) (upd H1 p o) := by
  obtain ⟨ρ, S, I, A, z, sl, hF, o, S', e, k⟩ := h
  obtain ⟨xs, S1, e1, e2⟩ := Res.bind_eq_ok e
  split at e2
  · rename_i ρ' hρ
    cases e2
    have hlen : ∀ (is : List (Nat × Bool)) (xs : List Rr) (ρ ρ' : Env), parE is xs ρ = some ρ' → xs.length = is.length := by
      intro is
      induction is with
      | nil => intro xs ρ ρ' e; cases xs with | nil => rfl | cons => cases e
      | cons p is ih =>
        intro xs ρ ρ' e
        cases xs with
        | nil => cases e
        | cons x xs =>
          obtain ⟨s, _, e⟩ := Option.bind_eq_some_iff.mp (show (slOf p.2 x).bind (fun s => parE is xs (ρ.set p.1 s)) = some ρ' from e)
          rw [List.length_cons, List.length_cons, ih _ _ _ e]
    refine ⟨ρ, S, I, A, z, sl, xs, _, e1, fun vs H1 I1 A1 s1 z1 t1 => ?_⟩
    have sl1 := sl.step s1
    have hn : ∀ (a : Addr), H a = none → ∀ (i : Nat) (d : CC.D) (b : Addr), ρ[i]? = some (.ow d) → σ[i]? = some (some (.ref b)) → b ≠ a := fun a ha => sl.oldOwn a ha
    refine ⟨by rw [t1.len, hlen _ _ _ _ hρ], ?_, fun p o' hp' => ?_⟩
    · obtain ⟨I2, z2, s2, sl2⟩ := par_ok is xs ρ ρ' σ vs I1 _ z1 sl1 t1 (fun a i hi q => hF a i hi q) hn hp hρ
      exact k _ _ _ _ (s1.toS.trans s2) z2 sl2
    · obtain ⟨s2, z2⟩ := z1.newO hp' o'
      obtain ⟨I3, z3, s3, sl3⟩ := par_ok is xs ρ ρ' σ vs I1 _ z2 (sl1.step s2) (t1.step s2) (fun a i hi q => hF a i hi q) hn hp hρ
      exact k _ _ _ _ ((s1.trans s2).toS.trans s3) z3 sl3
  · cases e2
theorem w_par2 {i j : Nat} {bi bj : Bool} {x y : Str} {px py pt : Pos} {kt k2 : Nat} {pt2 : Pos} (ha : WR X T Fr [a, b] rs) (hN : X.N.Nodup) (hp : ∀ p ∈ [(i, bi), (j, bj)], 0 < p.1 ∨ p.2 = false := by decide) (hx : X.N[i]? = some x := by rfl) (hy : X.N[j]? = some y := by rfl) (hij : i ≠ j := by decide)
    (lx : List.lookup x X.env.scope.names = some NameKind.local := by rfl) (ly : List.lookup y X.env.scope.names = some NameKind.local := by rfl)
    (h1 : swappedStores [.Tuple [.Name x px, .Name y py] kt pt] (.Tuple [a, b] k2 pt2) X.env = pure (some [x, y]) := by rfl)
    (h2 : swapsWithSole [.Tuple [.Name x px, .Name y py] kt pt] (.Tuple [a, b] k2 pt2) pos.line X.env = pure false := by rfl) (hc : X.calm = true := by rfl) :
    WS X T Fr (.Assign [.Tuple [.Name x px, .Name y py] kt pt] (.Tuple [a, b] k2 pt2) pos) (sPar [(i, bi), (j, bj)] rs) :=
  PS.weak (L2.ps_par hc hN hx hy hij lx ly ha h1 h2) fun D σ H h => by
    obtain ⟨ρ, S, I, A, z, sl, r, S', e, k⟩ := comb_par hp h
    refine ⟨ρ, S, I, A, z, sl, r, S', e, fun vs H' I' A' s z' t => ?_⟩
    obtain ⟨q1, q2, _⟩ := k vs H' I' A' s z' t
    match vs, q1, q2 with
    | [v, w], _, q2 => exact ⟨v, w, rfl, q2⟩
theorem w_par3 {i j l : Nat} {bi bj bl : Bool} {x y u : Str} {px py pu pt : Pos} {kt k2 : Nat} {pt2 : Pos} (ha : WR X T Fr [a, b, c] rs) (hN : X.N.Nodup) (hp : ∀ p ∈ [(i, bi), (j, bj), (l, bl)], 0 < p.1 ∨ p.2 = false := by decide) (hx : X.N[i]? = some x := by rfl) (hy : X.N[j]? = some y := by rfl) (hu : X.N[l]? = some u := by rfl)
    (hij : i ≠ j := by decide) (hil : i ≠ l := by decide) (hjl : j ≠ l := by decide)
    (lx : List.lookup x X.env.scope.names = some NameKind.local := by rfl) (ly : List.lookup y X.env.scope.names = some NameKind.local := by rfl) (lu : List.lookup u X.env.scope.names = some NameKind.local := by rfl)
    (h1 : swappedStores [.Tuple [.Name x px, .Name y py, .Name u pu] kt pt] (.Tuple [a, b, c] k2 pt2) X.env = pure (some [x, y, u]) := by rfl)
    (h2 : swapsWithSole [.Tuple [.Name x px, .Name y py, .Name u pu] kt pt] (.Tuple [a, b, c] k2 pt2) pos.line X.env = pure false := by rfl) (hc : X.calm = true := by rfl) :
    WS X T Fr (.Assign [.Tuple [.Name x px, .Name y py, .Name u pu] kt pt] (.Tuple [a, b, c] k2 pt2) pos) (sPar [(i, bi), (j, bj), (l, bl)] rs) :=
  PS.weak (L2.ps_par3 hc hN hx hy hu hij hil hjl lx ly lu ha h1 h2) fun D σ H h => by
    obtain ⟨ρ, S, I, A, z, sl, r, S', e, k⟩ := comb_par hp h
    refine ⟨ρ, S, I, A, z, sl, r, S', e, fun vs H' I' A' s z' t => ?_⟩
    obtain ⟨q1, q2, _⟩ := k vs H' I' A' s z' t
    match vs, q1, q2 with
    | [v, w, o], _, q2 => exact ⟨v, w, o, rfl, q2⟩
/-- names, one behind the other -/
def gNms : List Nat → L2.TGs
  | [] => L2.gNil
  | i :: is => L2.gCons (L2.gName i) (gNms is)
theorem gNms_ok : ∀ {is : List Nat} {vs : List V} {σ : L2.St} {H : Hp} {Q : L2.St → Hp → Prop}, vs.length = is.length → Q (setAll σ is vs) H → gNms is vs σ H Q
  | [], [], σ, H, Q, _, q => ⟨rfl, q⟩
  | [], _ :: _, _, _, _, h, _ => by cases h
  | _ :: _, [], _, _, _, h, _ => by cases h
  | i :: is, v :: vs, σ, H, Q, h, q => ⟨v, vs, rfl, gNms_ok (by simpa using h) q⟩
theorem w_nms0 : L2.PGs X [] (gNms []) := L2.pgs_nil
theorem w_nms {i : Nat} {is : List Nat} {x : Str} (hN : X.N.Nodup) (hr : L2.PGs X es (gNms is)) (hi : X.N[i]? = some x := by rfl) (hl : L2.Loc X.env.scope x := by first | exact Or.inl rfl | exact Or.inr rfl)
    (hf : X.fn x = true ∨ List.lookup x X.env.scope.names = some NameKind.local := by first | exact Or.inl rfl | exact Or.inr rfl)
    (ha : List.map (fun x => x.snd) (assignEach (.Name x pos :: es) X.env) = assign (.Name x pos) X.env :: List.map (fun x => x.snd) (assignEach es X.env) := by rfl) : L2.PGs X (.Name x pos :: es) (gNms (i :: is)) :=
  L2.pgs_cons (L2.pg_name hN hi hl hf) hr ha
theorem w_parT {is : List (Nat × Bool)} {ts vs : List Expr} {kt k2 : Nat} {pt pt2 : Pos} (ha : WR X T Fr vs rs) (hg : L2.PGs X ts (gNms (is.map (·.1)))) (hp : ∀ p ∈ is, 0 < p.1 ∨ p.2 = false := by decide) (hl : is.length ≤ 1000 := by decide) (hn : (assignEach ts X.env).length = is.length := by rfl)
    (hx : List.findIdx? (fun x => x.fst) (assignEach ts X.env) = none := by rfl) (h1 : swapsWithSole [.Tuple ts kt pt] (.Tuple vs k2 pt2) pos.line X.env = pure false := by rfl) (h2 : swappedStores [.Tuple ts kt pt] (.Tuple vs k2 pt2) X.env = pure none := by rfl)
    (h3 : List.map (fun x => x.snd) (assignEach [.Tuple ts kt pt] X.env) = [assign (.Tuple ts kt pt) X.env] := by rfl) (hc : X.calm = true := by rfl) :
    WS X T Fr (.Assign [.Tuple ts kt pt] (.Tuple vs k2 pt2) pos) (sPar is rs) :=
  PS.weak (L2.ps_asg (L2.pe_tup ha) (L2.pg_tup hc hg hn hx) h1 h2 h3) fun D σ H h => by
    obtain ⟨ρ, S, I, A, z, sl, r, S', e, k⟩ := comb_par hp h
    refine ⟨ρ, S, I, A, z, sl, r, S', e, fun vs H' I' A' s z' t => ?_⟩
    obtain ⟨q1, _, q3⟩ := k vs H' I' A' s z' t
    have hs : sizeLine = 16777216 := by decide
    exact ⟨by omega, fun p hp' => ⟨p, vs, rfl, .inl (.inl upd_same), q1, gNms_ok (by rw [q1, List.length_map]) (q3 p _ hp')⟩⟩
end
end CC
end

section
/-! CcS16: defs. -/
namespace CC
open PySem PySem.Spec PyProof.Rows
open L2 (V HO Hp upd SqL SqT Vals upd_same upd_ne ne_of_none TE TT TA TS TI TG VK PE PT PW PA PS PSs PG PI Ends It OpR CallR MtR IxR SlR FunD)
theorem uo {k : Nat} {A : Around} (r : L2.Room k A) : A.units + 65 < cLine := by have := r.un; omega
theorem fnR_np {np ns : Nat} {B : SF} {ds : List D} {S S' : Sto} {r : Rr} (h : fnR np ns B ds S = .ok r S') : r.1 ≠ .pk ∧ ds.length = np := by
  unfold fnR at h
  obtain ⟨h1, h⟩ := if_inv h
  obtain ⟨o, S1, e1, e2⟩ := Res.bind_eq_ok h
  cases o with
  | nx ρ => cases e2; exact ⟨by simp, h1⟩
  | ret r' ρ => obtain ⟨np', e3⟩ := kpb e2; cases e3; exact ⟨np', h1⟩
  | brk ρ => cases e2
  | cont ρ => cases e2
theorem fnI_np {np ns : Nat} {B : SF} {d : D} {ds : List D} {S S' : Sto} {r : D × D} (h : fnI np ns B d ds S = .ok r S') : ds.length + 1 = np := by
  unfold fnI at h
  exact (if_inv h).1
theorem slots_start {K : PySem.W.Frag} {T : Tab} {Fr : Nat → Addr → Prop} {H I : Hp} {A : List Addr} {ds : List D} {vs : List V} (r : Reps K T I A ds vs) (n : Nat) : Slots K T Fr H I A [] (ds.map Sl.sh ++ List.replicate n Sl.no) (vs.map some ++ List.replicate n none) := by
  have hl := r.length
  refine ⟨by simp [hl], fun i d hi e => ?_, fun i d hi e => ?_, fun i j d e a hi hj hne q1 q2 q3 => ?_⟩
  · by_cases hi : i < ds.length
    · rw [List.getElem?_append_left (by simpa using hi), List.getElem?_map] at e
      obtain ⟨d', h1, h2⟩ := Option.map_eq_some_iff.mp e
      cases h2
      obtain ⟨v, h3, h4⟩ := r.get h1
      exact ⟨v, by rw [List.getElem?_append_left (by simp [hl]; exact hi), List.getElem?_map, h3]; rfl, h4⟩
    · rw [List.getElem?_append_right (by simpa using hi)] at e
      rw [List.getElem?_replicate] at e
      split at e <;> cases e
  · by_cases hi : i < ds.length
    · rw [List.getElem?_append_left (by simpa using hi), List.getElem?_map] at e
      obtain ⟨d', h1, h2⟩ := Option.map_eq_some_iff.mp e
      cases h2
    · rw [List.getElem?_append_right (by simpa using hi), List.getElem?_replicate] at e
      split at e <;> cases e
  · by_cases hi : i < ds.length
    · rw [List.getElem?_append_left (by simpa using hi), List.getElem?_map] at q1
      obtain ⟨d', h1, h2⟩ := Option.map_eq_some_iff.mp q1
      cases h2
    · rw [List.getElem?_append_right (by simpa using hi), List.getElem?_replicate] at q1
      split at q1 <;> cases q1
section
variable {P : Program} {w : World} {K : PySem.W.Frag} {mg : Str → Option Value} {base : Heap} {T : Tab}
theorem ok_fn {x qual : Str} {params : Arguments} {body : List Stmt} {scope : Scope} {f : Addr} {fd : FuncData} {N ps : List Str} {k np ns : Nat} {B : SF} (F : FunD K x qual params body scope [] [] f fd) (sc : L2.FnScope N ps scope) (hps : ps.length = np) (hns : N.length = ns)
    (hb : ∀ (Fr : Nat → Addr → Prop) (cdv : Value) (A : Around) (outer : List PySem.Env) (s : Shared) (H : Hp) (E : L2.XK), L2.Room k (A.deeper (PyProof.Rows.envOfC qual scope s.heap.objs.size f cdv)) → WSs (L2.cxOf L2.CX0 P w K mg base N qual scope f cdv A outer s H E).nox T Fr body B) :
    L2.FnOk P w K mg base L2.CX0 (k + 1) f fd ps (spF K T np (fnR np ns B)) := by
  refine F.ok sc (fun vs H Q E h => by rw [h.1, hps]) (fun cdv A outer s H vs Q E hr h => ⟨RdS K T (fun _ a => H a = none) B, L2.PSs.nox (hb _ cdv A outer s H E hr), ?_⟩)
  obtain ⟨hl, ds, S, I, A0, z, r, res, S', e, np', k'⟩ := h
  unfold fnR at e
  obtain ⟨h1, e⟩ := if_inv e
  obtain ⟨o, S1, e1, e2⟩ := Res.bind_eq_ok e
  have sl : Slots K T (fun _ a => H a = none) H I A0 [] (ds.map Sl.sh ++ List.replicate (ns - np) Sl.no) (L2.start N vs) := by
    have := slots_start (Fr := fun _ a => H a = none) (H := H) r (ns - np)
    unfold L2.start
    rw [hns, hl]; exact this
  refine ⟨_, S, I, A0, z, sl, fun a i _ h => h, o, S1, e1, fun σ' H' I' A' s' z' => ?_⟩
  have st : Step H I A0 H' I' A' := by
    refine ⟨fun a o h n => s'.ext a o h n (fun ⟨_, w⟩ => by have w : H a = none := w; rw [h] at w; cases w), s'.dom, s'.imm, fun a ha => ?_, s'.cel⟩
    rcases s'.new a ha with h | h | ⟨_, h⟩
    · exact .inl h
    · exact .inr h
    · exact .inr h
  cases o with
  | nx ρ =>
    cases e2
    exact fun _ => k' .non H' I' A' st z' rfl
  | ret r' ρ =>
    obtain ⟨_, e3⟩ := kpb e2
    cases e3
    exact fun _ v t => k' v H' I' A' st z' (t.wk fun a ⟨_, h⟩ => h)
  | brk ρ => cases e2
  | cont ρ => cases e2
theorem ok_fnI {x qual : Str} {params : Arguments} {body : List Stmt} {scope : Scope} {f : Addr} {fd : FuncData} {N ps : List Str} {k np ns : Nat} {B : SF} (F : FunD K x qual params body scope [] [] f fd) (sc : L2.FnScope N ps scope) (hps : ps.length = np) (hns : N.length = ns)
    (hb : ∀ (Fr : Nat → Addr → Prop) (cdv : Value) (A : Around) (outer : List PySem.Env) (s : Shared) (H : Hp) (E : L2.XK), L2.Room k (A.deeper (PyProof.Rows.envOfC qual scope s.heap.objs.size f cdv)) → WSs (L2.cxOf L2.CX0 P w K mg base N qual scope f cdv A outer s H E).nox T Fr body B) :
    L2.FnOk P w K mg base L2.CX0 (k + 1) f fd ps (spI K T np (fnI np ns B)) := by
  refine F.ok sc (fun vs H Q E h => by rw [h.1, hps]) (fun cdv A outer s H vs Q E hr h => ?_)
  obtain ⟨hl, p, d, vs', ds, S, I, A0, rfl, z, hI, hA, ho, r, v, d', S', e, k'⟩ := h
  obtain ⟨u, hu⟩ := ho.there
  refine ⟨RdS K T (fun i a => (i = 0 ∧ a = p) ∨ (0 < i ∧ H a = none)) B, L2.PSs.nox (hb _ cdv A outer s H E hr), ?_⟩
  unfold fnI at e
  obtain ⟨h1, e⟩ := if_inv e
  obtain ⟨o, S1, e1, e2⟩ := Res.bind_eq_ok e
  have sl0 := slots_start (Fr := fun i a => (i = 0 ∧ a = p) ∨ (0 < i ∧ H a = none)) (H := H) r (ns - np)
  have sl : Slots K T (fun i a => (i = 0 ∧ a = p) ∨ (0 < i ∧ H a = none)) H I A0 [] (Sl.ow d :: (ds.map Sl.sh ++ List.replicate (ns - np) Sl.no)) (L2.start N (.ref p :: vs')) := by
    unfold L2.start
    rw [hns, hl]
    have how : ∀ (j : Nat) (e : D), (ds.map Sl.sh ++ List.replicate (ns - np) Sl.no)[j]? = some (.ow e) → False := fun j e q => by
      by_cases hi : j < ds.length
      · rw [List.getElem?_append_left (by simpa using hi), List.getElem?_map] at q
        obtain ⟨d', h1, h2⟩ := Option.map_eq_some_iff.mp q
        cases h2
      · rw [List.getElem?_append_right (by simpa using hi), List.getElem?_replicate] at q
        split at q <;> cases q
    refine ⟨by have := sl0.len; simp at this ⊢; omega, fun i x hi q => ?_, fun i x hi q => ?_, fun i j x y a hi hj hne q1 q2 q3 => ?_⟩
    · cases i with
      | zero => cases q
      | succ i =>
        obtain ⟨v, r1, r2⟩ := sl0.sh i x (by simp) (by simpa using q)
        exact ⟨v, by simpa using r1, r2⟩
    · cases i with
      | zero => cases q; exact ⟨p, rfl, hI, hA, .inl ⟨rfl, rfl⟩, ho⟩
      | succ i => exact (how i x (by simpa using q)).elim
    · cases i with
      | zero =>
        cases j with
        | zero => exact absurd rfl hne
        | succ j => exact (how j y (by simpa using q2)).elim
      | succ i => exact (how i x (by simpa using q1)).elim
  refine ⟨_, S, I, A0, z, sl, fun a i hi h => .inr ⟨hi, h⟩, o, S1, e1, fun σ' H' I' A' s' z' => ?_⟩
  have st : StepS (fun a => H a = none ∨ a = p) H I A0 H' I' A' := by
    refine ⟨fun a o h n nw => s'.ext a o h n (fun ⟨i, w⟩ => nw ?_), s'.dom, s'.imm, fun a ha => ?_, s'.cel⟩
    · rcases w with ⟨_, w⟩ | ⟨_, w⟩
      · exact .inr w
      · exact .inl w
    · rcases s'.new a ha with h | h | ⟨i, ⟨_, h⟩ | ⟨_, h⟩⟩
      · exact .inl h
      · exact .inr (.inl h)
      · exact .inr (.inr (.inr h))
      · exact .inr (.inr (.inl h))
  have fin : ∀ (ρ : Env) (v0 : D) (vv : V), fin0 v0 ρ S1 = .ok (v, d') S' → Slots K T (fun i a => (i = 0 ∧ a = p) ∨ (0 < i ∧ H a = none)) H' I' A' [] ρ σ' → Rep K T I' A' v0 vv → St0 K T H' S1 I' A' → Q vv H' := by
    intro ρ v0 vv e3 sl' rv z''
    unfold fin0 at e3
    split at e3
    · rename_i dd hd
      cases e3
      obtain ⟨q, q1, hI', hA', hF, ho'⟩ := sl'.ow 0 _ (by simp) hd
      have hq : q = p := by
        rcases hF with ⟨_, h⟩ | ⟨h, _⟩
        · exact h
        · exact absurd h (by decide)
      subst hq
      exact k' vv H' I' A' st z'' hI' hA' ho' rv
    · cases e3
  cases o with
  | nx ρ => exact fun sl' => fin ρ .non .non e2 sl' rfl z'
  | ret r' ρ =>
    obtain ⟨t, d0⟩ := r'
    cases t with
    | sh => exact fun sl' vv tg => fin ρ d0 vv e2 sl' tg z'
    | ow => cases e2
    | pk => cases e2
  | brk ρ => cases e2
  | cont ρ => cases e2
theorem call_of {x qual : Str} {params : Arguments} {body : List Stmt} {scope : Scope} {f : Addr} {fd : FuncData} {ps : List Str} {k np ns : Nat} {B : SF} (F : FunD K x qual params body scope [] [] f fd) (G : L2.FnOk P w K mg base L2.CX0 k f fd ps (spF K T np (fnR np ns B)))
    (hm : mg x = some (.ref f)) (hb : ∀ (kV doc pm : Value) (an : Option Addr) (cdv ct : Value) (us : List Value), us.length = ps.length → bindArgs (PySem.W.fnOf x qual params body scope Value.none kV doc pm an cdv ct) { pos := us } = pure (ps.zip us)) : CallOk P w K mg base T k x np (fnR np ns B) :=
  ⟨⟨f, fd, ps, G, hm, F.kp, F.bindsN hb⟩, fun _ _ _ _ e => fnR_np e⟩
theorem callI_of {x qual : Str} {params : Arguments} {body : List Stmt} {scope : Scope} {f : Addr} {fd : FuncData} {ps : List Str} {k np ns : Nat} {B : SF} (F : FunD K x qual params body scope [] [] f fd) (G : L2.FnOk P w K mg base L2.CX0 k f fd ps (spI K T np (fnI np ns B)))
    (hm : mg x = some (.ref f)) (hb : ∀ (kV doc pm : Value) (an : Option Addr) (cdv ct : Value) (us : List Value), us.length = ps.length → bindArgs (PySem.W.fnOf x qual params body scope Value.none kV doc pm an cdv ct) { pos := us } = pure (ps.zip us)) : CallOkI P w K mg base T k x np (fnI np ns B) :=
  ⟨⟨f, fd, ps, G, hm, F.kp, F.bindsN hb⟩, fun _ _ _ _ _ e => fnI_np e⟩
theorem meth_of {x qual : Str} {params : Arguments} {body : List Stmt} {scope : Scope} {f : Addr} {fd : FuncData} {ps : List Str} {k np ns c : Nat} {B : SF} (F : FunD K x qual params body scope [] [] f fd) (G : L2.FnOk P w K mg base L2.CX0 k f fd ps (spF K T np (fnR np ns B)))
    (hm : L2.Meth K (T.ca c) x f) (hc : L2.Cls K (T.ca c)) (hn : x ∉ T.fl c) (hb : ∀ (kV doc pm : Value) (an : Option Addr) (cdv ct : Value) (us : List Value), us.length = ps.length → bindArgs (PySem.W.fnOf x qual params body scope Value.none kV doc pm an cdv ct) { pos := us } = pure (ps.zip us)) : MethOk P w K mg base T k c x np (fnR np ns B) :=
  ⟨⟨f, fd, ps, G, hm, F.bindsN hb⟩, hc, hn, fun _ _ _ _ e => fnR_np e⟩
theorem mk_of {x y qual : Str} {params : Arguments} {body : List Stmt} {scope : Scope} {f : Addr} {fd : FuncData} {ps : List Str} {k np ns c : Nat} {B : SF} (F : FunD K x qual params body scope [] [] f fd) (G : L2.FnOk P w K mg base L2.CX0 k f fd ps (spI K T np (fnI np ns B)))
    (hm : L2.Mk K (T.ca c) f) (hg : mg y = some (.ref (T.ca c))) (hb : ∀ (kV doc pm : Value) (an : Option Addr) (cdv ct : Value) (us : List Value), us.length = ps.length → bindArgs (PySem.W.fnOf x qual params body scope Value.none kV doc pm an cdv ct) { pos := us } = pure (ps.zip us)) : MkOk P w K mg base T k y c np (fnI np ns B) :=
  ⟨⟨f, fd, ps, G, hm, hg, F.bindsN hb⟩, fun _ _ _ _ _ e => fnI_np e⟩
end
/-! ### a call that changes its first argument -/
section
variable {X : L2.Cx} {T : Tab} {Fr : Nat → Addr → Prop} {a : Expr} {es : List Expr} {pos : Pos} {as : AF}
theorem w_sCallI {k np i : Nat} {x y : Str} {F : FI} {p p2 pc : Pos} (C : CallOkI X.prog X.w X.K X.mg X.base T k x np F) (hr : L2.Room k X.A) (hv : PE X (.Name y p2) (L2.tVar i)) (ha : WA X T Fr es as) (hg : L2.Gl X x := by rfl)
    (hd : (x == Str.ofString "__debug__") = false := by rfl) (hs : starEach (.Name y p2 :: es) X.env = (false, eval (.Name y p2) X.env) :: starEach es X.env := by rfl)
    (ht : ((backTo pc (starEach es X.env)).any fun x => x.fst) = false := by rfl) (h5 : swapsWith (.Call (.Name x p) (.Name y p2 :: es) [] pc) none pos.line X.env = pure false := by rfl) :
    WS X T Fr (.Expr (.Call (.Name x p) (.Name y p2 :: es) [] pc) pos) (sCallI F i as) := by
  obtain ⟨f, fd, ps, G, hm, hk, hb⟩ := C.ex
  refine PS.weak (L2.ps_expr (L2.pe_call G hr hg hm hk hb .nil L2.pass0 (L2.pa_cons hv ha hs) hd hs ht) h5) fun D σ H h => ?_
  obtain ⟨ρ, S, I, A, z, sl, hF, o, S', e, k⟩ := h
  unfold sCallI at e
  split at e
  · rename_i d hx
    obtain ⟨ds, S1, e1, e2⟩ := Res.bind_eq_ok e
    obtain ⟨⟨v, d'⟩, S2, e3, e4⟩ := Res.bind_eq_ok e2
    cases e4
    obtain ⟨q, hq, _⟩ := sl.ow i d (by simp) hx
    refine ⟨_, hq, ρ, S, I, A, z, sl, ds, S1, e1, fun vs H1 I1 A1 s1 z1 r1 => ?_⟩
    have sl1 := sl.step s1
    obtain ⟨q', hq', hI, hA, hFr, ho⟩ := sl1.ow i d (by simp) hx
    rw [hq] at hq'; cases hq'
    obtain ⟨uu, huu⟩ := ho.there
    refine ⟨by rw [List.append_nil, List.length_cons, r1.length, C.np _ _ _ _ _ e3], q, d, vs, ds, S1, I1, A1, by rw [List.append_nil], z1, hI, hA, ho, r1, v, d', _, e3, fun w H' I' A' s z' hI' hA' ho' rw' => ?_⟩
    have nn : ∀ b u, H1 b = some u → b ≠ q → b ∉ A1 → H' b = some u := fun b u hb hbq hbA => s.ext b u hb hbA (by
      rintro (h | h)
      · rw [hb] at h; cases h
      · exact hbq h)
    have hl : i < ρ.length := (List.getElem?_eq_some_iff.mp hx).1
    refine k σ H' I' A' (s1.toS.trans ⟨fun b u hb nb nw => nn b u hb (fun w => nw ⟨i, by rw [w]; exact hFr⟩) nb, s.dom, s.imm, fun b hb => ?_, s.cel⟩) z' ⟨by rw [List.length_set, sl1.len], fun j x hj qq => ?_, fun j x hj qq => ?_, fun j l x y b hj hk hne p1 p2 p3 => ?_⟩
    · rcases s.new b hb with h | h | h | h
      · exact .inl h
      · exact .inr (.inl h)
      · exact .inr (.inl h)
      · exact .inr (.inr ⟨i, by rw [h]; exact hFr⟩)
    · by_cases hji : j = i
      · subst hji; rw [List.getElem?_set_self hl] at qq; cases qq
      · rw [List.getElem?_set_ne (Ne.symm hji)] at qq
        obtain ⟨v, r1, r2⟩ := sl1.sh j x (by simp) qq
        exact ⟨v, r1, Rep.mono s.imm (fun k a e => s.getA e) _ _ r2⟩
    · by_cases hji : j = i
      · subst hji; rw [List.getElem?_set_self hl] at qq; cases qq
        exact ⟨q, hq, hI', hA', hFr, ho'⟩
      · rw [List.getElem?_set_ne (Ne.symm hji)] at qq
        obtain ⟨b, r1, r2, r3, r4, r5⟩ := sl1.ow j x (by simp) qq
        have hb : b ≠ q := fun z => sl1.apart j i x d b (by simp) (by simp) hji qq hx r1 (by rw [z]; exact hq)
        obtain ⟨ub, hub⟩ := r5.there
        refine ⟨b, r1, ?_, ?_, r4, ?_⟩
        · cases w : I' b with
          | none => rfl
          | some u =>
            rcases s.new b (by rw [w]; simp) with h | h | h | h
            · exact absurd r2 h
            · rw [hub] at h; cases h
            · rw [hub] at h; cases h
            · exact absurd h hb
        · obtain ⟨B, eB, hB⟩ := s.cel
          rw [eB, List.mem_append]
          rintro (h | h)
          · exact r3 h
          · rw [hB b h] at hub; cases hub
        · have mR := fun (ds : List CC.D) (vs : List V) (q : Reps X.K T I1 A1 ds vs) => Reps.mono (A' := A') s.imm (fun k a e => s.getA e) ds vs q
          cases x with
          | lst ds => obtain ⟨vs, w1, w2⟩ := r5; exact ⟨vs, nn _ _ w1 hb r3, mR _ _ w2⟩
          | dK ds => obtain ⟨vs, w1, w2⟩ := r5; exact ⟨vs, nn _ _ w1 hb r3, RepK.mono s.imm (fun k a e => s.getA e) _ _ w2⟩
          | dT ds => obtain ⟨vs, w1, w2⟩ := r5; exact ⟨vs, nn _ _ w1 hb r3, RepT.mono s.imm (fun k a e => s.getA e) _ _ w2⟩
          | obj c ds => obtain ⟨dx, vs, w1, wl, w2⟩ := r5; exact ⟨dx, vs, nn _ _ w1 hb r3, wl, mR _ _ w2⟩
          | _ => exact r5.elim
    · by_cases hji : j = i
      · subst hji
        have hki : l ≠ j := Ne.symm hne
        rw [List.getElem?_set_ne (Ne.symm hki)] at p2
        exact sl1.apart j l d y b (by simp) (by simp) hne hx p2 p3
      · by_cases hki : l = i
        · subst hki
          rw [List.getElem?_set_ne (Ne.symm hji)] at p1
          exact sl1.apart j l x d b (by simp) (by simp) hne p1 hx p3
        · rw [List.getElem?_set_ne (Ne.symm hji)] at p1
          rw [List.getElem?_set_ne (Ne.symm hki)] at p2
          exact sl1.apart j l x y b (by simp) (by simp) hne p1 p2 p3
  · cases e
end
end CC
end

section
/-! CcS17: index, sorted. -/
namespace CC
open PySem PySem.Spec PyProof.Rows
open L2 (V HO Hp upd SqL SqT Vals upd_same upd_ne ne_of_none TE TT TA TS TI TG VK PE PT PW PA PS PSs PG PI Ends It OpR CallR MtR IxR SlR FunD)
section
variable {K : PySem.W.Frag} {T : Tab} {H I : Hp} {A : List Addr} {S : Sto}
theorem prsOf_map : ∀ {ds : List D} {ps : List (Int × Int)}, prsOf ds = some ps → ds = ps.map ofPr
  | [], ps, h => by
    have e : ps = [] := by injection h with h; exact h.symm
    rw [e]; rfl
  | d :: ds, ps, h => by
    unfold prsOf at h
    split at h
    · rename_i e; cases e
    · rename_i i j ds' e
      cases e
      obtain ⟨qs, h1, rfl⟩ := Option.map_eq_some_iff.mp h
      rw [prsOf_map h1]; rfl
    · cases h
theorem Reps.perm {ds : List D} : ∀ {vs ws : List V}, ws.Perm vs → Reps K T I A ds vs → ∃ es, es.Perm ds ∧ Reps K T I A es ws := by
  intro vs ws p
  induction p generalizing ds with
  | nil => intro h; exact ⟨ds, .refl _, h⟩
  | cons x p ih =>
    intro h
    cases ds with
    | nil => cases h
    | cons d ds =>
      obtain ⟨v, r, e, h1, h2⟩ := (show ∃ v r, _ = v :: r ∧ Rep K T I A d v ∧ Reps K T I A ds r from h)
      cases e
      obtain ⟨es, p1, h3⟩ := ih h2
      exact ⟨d :: es, p1.cons d, .cons h1 h3⟩
  | swap x y l =>
    intro h
    cases ds with
    | nil => cases h
    | cons d ds =>
      obtain ⟨v, r, e, h1, h2⟩ := (show ∃ v r, _ = v :: r ∧ Rep K T I A d v ∧ Reps K T I A ds r from h)
      cases e
      cases ds with
      | nil => cases h2
      | cons d2 ds =>
        obtain ⟨v, r, e, h3, h4⟩ := (show ∃ v r, _ = v :: r ∧ Rep K T I A d2 v ∧ Reps K T I A ds r from h2)
        cases e
        exact ⟨d2 :: d :: ds, .swap d d2 ds, .cons h3 (.cons h1 h4)⟩
  | trans p q ih1 ih2 =>
    intro h
    obtain ⟨es, p1, h1⟩ := ih2 h
    obtain ⟨fs, p2, h2⟩ := ih1 h1
    exact ⟨fs, p2.trans p1, h2⟩
/-- the key of a pair -/
def prK (H : Hp) : V → Int × Int
  | .ref t => match H t with
    | some (.tup [.int a, .int b]) => (a, b)
    | _ => (0, 0)
  | _ => (0, 0)
theorem pr_rep (z : St0 K T H S I A) {p : Int × Int} {v : V} (h : Rep K T I A (ofPr p) v) : ∃ t, v = .ref t ∧ H t = some (.tup [.int p.1, .int p.2]) ∧ prK H v = p := by
  obtain ⟨a, vs, rfl, q, r⟩ := (show ∃ a vs, v = .ref a ∧ I a = some (.tup vs) ∧ Reps K T I A [.int p.1, .int p.2] vs from h)
  obtain ⟨v1, r1, rfl, h1, r2⟩ := (show ∃ v r, vs = v :: r ∧ Rep K T I A (.int p.1) v ∧ Reps K T I A [.int p.2] r from r)
  obtain ⟨v2, r3, rfl, h2, r4⟩ := (show ∃ v r, r1 = v :: r ∧ Rep K T I A (.int p.2) v ∧ Reps K T I A [] r from r2)
  cases h1; cases h2
  have e4 : r3 = [] := r4
  subst e4
  refine ⟨a, rfl, z.sub _ _ q, ?_⟩
  show (match H a with
    | some (.tup [.int a, .int b]) => (a, b)
    | _ => (0, 0)) = p
  rw [show H a = _ from z.sub _ _ q]
def rSortX (K : PySem.W.Frag) : List V → Hp → VK → Prop := fun xs H Q => L2.rSortedI K xs H Q ∨ L2.rSortedPO K xs H Q
theorem good_sorted : GoodN K T (rSortX K) sortedR := by
  intro H S I A x dx Q p S' z rx e k
  unfold sortedR at e
  split at e
  · rename_i xs
    obtain ⟨v, rfl, q⟩ := rx.one
    obtain ⟨a, vs, rfl, ha, ra, _⟩ := RepC.lst q
    split at e
    · rename_i ns hn
      obtain ⟨rfl, rfl⟩ := okO_inv e
      rw [intsOf_map hn] at ra
      rw [ra.ints] at ha
      refine .inl ⟨a, ns, rfl, .of ha, fun ns' q hp hs hq => ?_⟩
      have e1 : ns' = isort leI ns := perm_srt_eq leI_anti (hp.trans (isort_perm ns).symm) (hs.imp fun {a b} h => by unfold leI; simpa using h) (isort_srt leI_tot leI_tr ns)
      rw [e1]
      refine end_lst z ?_ k hq
      have : ∀ ms : List Int, Reps K T I A (ms.map D.int) (ms.map V.int) := fun ms => by
        induction ms with
        | nil => exact rfl
        | cons m ms ih => exact .cons rfl ih
      exact this _
    · split at e
      · rename_i ps hp
        obtain ⟨rfl, rfl⟩ := okO_inv e
        have hds := prsOf_map hp
        refine .inr ⟨a, vs, prK H, rfl, .of ha, fun y hy => ?_, fun ys q hs hb hq => ?_⟩
        · obtain ⟨j, hj, ej⟩ := List.mem_iff_getElem.mp hy
          obtain ⟨d, hd, rd⟩ := ra.get' (i := j) (v := y) (by rw [List.getElem?_eq_getElem hj, ej])
          rw [hds, List.getElem?_map] at hd
          obtain ⟨p, _, rfl⟩ := Option.map_eq_some_iff.mp hd
          obtain ⟨t, h1, h2, h3⟩ := pr_rep z rd
          exact ⟨t, h1, by rw [h3]; exact h2⟩
        · obtain ⟨es, pe, re⟩ := ra.perm hb.perm
          -- es are pairs, sorted
          have key : ∀ (es : List D) (ys : List V), Reps K T I A es ys → (∀ d ∈ es, ∃ p, d = ofPr p) → es = (ys.map (prK H)).map ofPr := by
            intro es
            induction es with
            | nil => intro ys r _; have e0 : ys = [] := r; subst e0; rfl
            | cons d es ih =>
              intro ys r hm
              obtain ⟨v, r', rfl, h1, h2⟩ := (show ∃ v r, ys = v :: r ∧ Rep K T I A d v ∧ Reps K T I A es r from r)
              obtain ⟨p, rfl⟩ := hm d List.mem_cons_self
              obtain ⟨t, g1, g2, g3⟩ := pr_rep z h1
              rw [List.map_cons, List.map_cons, g3, ← ih r' h2 fun d hd => hm d (List.mem_cons_of_mem _ hd)]
          have hpr : ∀ d ∈ xs, ∃ p, d = ofPr p := fun d hd => by
            rw [hds] at hd
            obtain ⟨p, _, rfl⟩ := List.mem_map.mp hd
            exact ⟨p, rfl⟩
          have e1 := key es ys re fun d hd => hpr d (pe.mem_iff.mp hd)
          have e2 := key xs vs ra hpr
          have e3 : vs.map (prK H) = ps := by
            have inj : ∀ {l m : List (Int × Int)}, l.map ofPr = m.map ofPr → l = m := by
              intro l
              induction l with
              | nil => intro m h; cases m with | nil => rfl | cons => cases h
              | cons a l ih =>
                intro m h
                cases m with
                | nil => cases h
                | cons b m =>
                  rw [List.map_cons, List.map_cons] at h
                  injection h with h1 h2
                  rw [ih h2]
                  unfold ofPr at h1
                  injection h1 with h1
                  injection h1 with h3 h4
                  injection h3 with h3
                  injection h4 with h4 h5
                  injection h4 with h4
                  obtain ⟨a1, a2⟩ := a
                  obtain ⟨b1, b2⟩ := b
                  simp at h3 h4
                  rw [h3, h4]
            exact inj (e2.symm.trans hds)
          have e4 : ys.map (prK H) = isort leP ps := by
            refine perm_srt_eq leP_anti ?_ ?_ (isort_srt leP_tot leP_tr ps)
            · rw [← e3]
              exact (hb.perm.map (prK H)).trans (isort_perm _).symm
            · rw [List.pairwise_map]
              refine List.Pairwise.imp ?_ hs
              intro a b h
              rw [leP_iff]
              have h' := SrtO.lexB_no.mp h
              omega
          rw [e1, e4] at re
          exact end_lst z re k hq
      · cases e
  · cases e
end
section
variable {X : L2.Cx} {T : Tab} {Fr : Nat → Addr → Prop} {a b c : Expr} {pos : Pos} {fa fb : EF}
theorem toPds_get : ∀ {ds : List D} {j : Nat}, (toPds ds)[j]? = ds[j]?.map toPd
  | [], j => by simp [toPds]
  | d :: ds, 0 => by simp [toPds]
  | d :: ds, j + 1 => by simpa [toPds] using toPds_get
theorem plains_get : ∀ {ds : List D} {j : Nat} {d : D}, plains ds = true → ds[j]? = some d → plain d = true
  | [], _, _, _, h => by simp at h
  | x :: ds, 0, d, p, h => by
    have p2 : (plain x && plains ds) = true := p
    rw [Bool.and_eq_true] at p2
    simp at h; subst h; exact p2.1
  | x :: ds, j + 1, d, p, h => by
    have p2 : (plain x && plains ds) = true := p
    rw [Bool.and_eq_true] at p2
    exact plains_get p2.2 (by simpa using h)
theorem w_index {p2 pe : Pos} (hu : X.A.units + 65 < cLine) (ha : WE X T Fr a fa) (hb : WE X T Fr b fb) (hba : attributeBase a "index" X.env (eval a X.env) = eval a X.env := by rfl)
    (h1 : (((((backTo pe (starEach [b] X.env)).all fun x => !x.fst) && (backToKw pe (keywordEach [] X.env)).all fun x => x.fst.isSome) && decide (([b].length + ([] : List Keyword).length + if ([] : List Keyword).isEmpty = true then 0 else 1) < 30)) = true) := by rfl)
    (h2 : (p2.endLine == pe.line) = true := by rfl) (h3 : starEach [b] X.env = (false, eval b X.env) :: starEach [] X.env := by rfl) (h4 : ((backTo pe (starEach [] X.env)).any fun x => x.fst) = false := by rfl) :
    WE X T Fr (.Call (.Attribute a "index" p2) [b] [] pe) (eIndex fa fb) :=
  PE.weak (L2.pe_bm PySem.F.plainAttrs_list PySem.F.slot_list_index PySem.F.type_list_index (L2.mt_indexD hu) (peP ha) (L2.pa_cons (peP hb) L2.pa_nil h3) hba h1 h2 h3 h4) fun σ H Q h => by
    obtain ⟨ρ, S, I, A, z, sl, p, S', e, k⟩ := h
    obtain ⟨⟨t, d⟩, S1, e1, e2⟩ := Res.bind_eq_ok e
    obtain ⟨⟨t2, d2⟩, S2, e3, e4⟩ := Res.bind_eq_ok e2
    refine ⟨ρ, S, I, A, z, sl, _, _, e1, fun v H1 I1 A1 s1 z1 r1 => ?_⟩
    dsimp only at e4
    unfold indexR at e4
    split at e4
    · rename_i ds
      obtain ⟨hg, e5⟩ := if_inv e4
      rw [Bool.and_eq_true] at hg
      obtain ⟨q, vs, hv, hq, rq, _⟩ := RepC.lst (show RepC X.K T H1 I1 A1 (.lst ds) v from r1)
      refine ⟨by rw [hv]; exact .inl ⟨rfl, vs, .of hq⟩, ρ, S1, I1, A1, z1, sl.step s1, _, _, e3, fun w H2 I2 A2 s2 z2 r2 => ?_⟩
      split at e5
      · rename_i j hj
        obtain ⟨rfl, rfl⟩ := okS_inv e5
        have pl : plains ds = true := good_plain hg.2
        have d1 := pc_dp z2 (.lst ds) v (good_plain hg.2) (RepC.step s2 r1)
        have d2' := pc_dp z2 d2 w (good_plain hg.1) r2
        have sh := pd_shaped hg.2
        obtain ⟨hjl, hje, hjm⟩ := List.findIdx?_eq_some_iff_getElem.mp hj
        have hgj : ds[j]? = some ds[j] := List.getElem?_eq_getElem hjl
        subst hv
        refine ⟨q, w, toPd d2, toPds ds, j, toPd ds[j], rfl, rfl, by simpa [toPd] using d1, d2', by simpa [toPd] using sh, pd_shaped hg.1, by rw [toPds_get, hgj]; rfl, by rw [pd_eqv _ _ (plains_get pl hgj) (good_plain hg.1)]; exact hje, fun m z' hm hz' => ?_, end_val z2 (d := .int (j : Nat)) rfl (chainE (s1.trans s2) k)⟩
        rw [toPds_get] at hz'
        obtain ⟨dm, h5, rfl⟩ := Option.map_eq_some_iff.mp hz'
        have hml : m < ds.length := (List.getElem?_eq_some_iff.mp h5).1
        have h6 := hjm m hm
        rw [List.getElem?_eq_getElem hml] at h5
        cases h5
        rw [pd_eqv _ _ (plains_get pl (List.getElem?_eq_getElem hml)) (good_plain hg.1)]
        simpa using h6
      · cases e5
    · cases e4
theorem b_sorted : ResBt X.K T X "sorted" sortedR := ⟨_, good_sorted, .inl ⟨_, CallR.or L2.cr_sortedI L2.cr_sortedPO, boot_sorted⟩⟩
end
end CC
end

section
/-! CcS18: the end. -/
namespace CC
open PySem PySem.Spec PyProof.Rows
def exC (K : PySem.W.Frag) (x : Str) : Bool :=
  decide (PySem.W.findIn K (.ref (He.ga K x)) "__class__" = some (some (.builtin "object.__class__"))) && (decide (PySem.W.specialIn K (.builtin "object.__class__") "__get__" = some (some (.builtin "getset_descriptor.__get__"))) &&
    (decide (PySem.W.takesIn K (.builtin "object.__class__") = some true) && decide (PySem.W.mroIn K (He.ga K x) (.type "object") = some true)))
theorem insC {K : PySem.W.Frag} {x : Str} (cl : L2.Cls K (He.ga K x)) (h : exC K x = true) : C8.InsC K (He.ga K x) := by
  unfold exC at h
  rw [Bool.and_eq_true, Bool.and_eq_true, Bool.and_eq_true] at h
  exact ⟨cl, of_decide_eq_true h.1, of_decide_eq_true h.2.1, of_decide_eq_true h.2.2.1, of_decide_eq_true h.2.2.2, by
    unfold PySem.W.kitOne
    rw [if_pos (by simp)]⟩
/-- the law of the small language -/
theorem sp_of {K : PySem.W.Frag} {T : Tab} {F : FF} (hl : ∀ ns : List Int, ns.length ≤ 63 → ∃ t S', F [.scr ns] [] = .ok (t, .bl true) S' ∧ t ≠ .pk) {H : L2.Hp} {a : Addr} {ns : List Int} {E : L2.XK} (hn : ns.length ≤ 63) (hS : L2.SqL K H a (ns.map L2.V.int)) :
    spF K T 1 F [.ref a] H (fun v _ => v = .bl true) E := by
  obtain ⟨t, S', h1, h2⟩ := hl ns hn
  refine ⟨rfl, [.scr ns], [], fun b => if b = a then H a else none, [], ⟨fun b o e => ?_, rfl, .nil, fun k b d h => absurd h (by simp)⟩, ⟨_, _, rfl, ⟨a, rfl, ?_⟩, rfl⟩, (t, .bl true), S', h1, h2, fun v H' I' A' s z tg => ?_⟩
  · split at e
    · rename_i q; rw [q]; exact e
    · cases e
  · rcases hS with (h | ⟨o, h⟩) | h
    · exact .inl (.inl (by simp [h]))
    · exact .inl (.inr ⟨o, by simp [h]⟩)
    · exact .inr h
  · cases t with
    | sh => exact tg
    | ow => obtain ⟨_, _, _, _, _, o⟩ := tg; exact o.elim
    | pk => exact absurd rfl h2
end CC
end

set_option maxHeartbeats 0

noncomputable section
namespace CC.K26
open CC PySem
/-! ### the defs as functions -/
def n_part : Nat := 0
def n_state : Nat := 1
def n_base : Nat := 2
def n_rows : Nat := 3
def c_Curve : Nat := 0
def flds : Nat → List Nat
  | 0 => [n_base, n_rows]
  | _ => []
def nms : Nat → Str
  | 0 => "part"
  | 1 => "state"
  | 2 => "base"
  | 3 => "rows"
  | _ => ""
/- 0 thing -/
def B_is_integer : SF := sSeq (sRet (eAnd (eIsi [.int] (eV true 0)) (eNot (eIsi [.bool] (eV true 0)))))
    (sNil)
def F_is_integer : FF := fnR 1 1 B_is_integer
/- 0 thing -/
def B_is_row : SF := sSeq (sRet (eIsi [.list, .tuple] (eV true 0)))
    (sNil)
def F_is_row : FF := fnR 1 1 B_is_row
/- 0 thing, 1 least, 2 most -/
def B_is_number : SF := sSeq (sRet (eAnd (eCall F_is_integer (aCons (eV false 0) (aNil))) (eChn .le .le (eV true 1) (eV true 0) (eV true 2))))
    (sNil)
def F_is_number : FF := fnR 3 3 B_is_number
/- 0 self, 1 base, 2 rows, 3 state, 4 row, 5 pair, 6 part, 7 late -/
def B_Curve___init__ : SF := sSeq (sIf (tNot (tT (eCall F_is_number (aCons (eV false 1) (aCons (eC (.int 2)) (aCons (eC (.int 3)) (aNil)))))))
    (sSeq (sDead)
    (sNil))
    (sNil))
    (sSeq (sIf (tOr (tNot (tT (eCall F_is_row (aCons (eV false 2) (aNil))))) (tNot (tT (eChn .le .le (eC (.int 1)) (eBt lenR (pCons (eV true 2) (aNil))) (eC (.int 16))))))
    (sSeq (sDead)
    (sNil))
    (sNil))
    (sSeq (sFor (gT (gCons (gN 3) (gCons (gN 4) (gNil)))) (iEnumK (eV false 2))
    (sSeq (sIf (tOr (tNot (tT (eCall F_is_row (aCons (eV false 4) (aNil))))) (tT (eCmp .ne (eBt lenR (pCons (eV true 4) (aNil))) (eBin .mul (eV true 1) (eV true 1)))))
    (sSeq (sDead)
    (sNil))
    (sNil))
    (sSeq (sIf (tNot (tT (eBt allR (pCons (eComp (eAnd (eIsi [.tuple] (eV true 5)) (eCmp .eq (eBt lenR (pCons (eV true 5) (aNil))) (eC (.int 2)))) (gN 5) (iE (eV true 4)) (tYes)) (aNil)))))
    (sSeq (sDead)
    (sNil))
    (sNil))
    (sSeq (sIf (tNot (tT (eBt allR (pCons (eComp (eCall F_is_number (aCons (eV false 7) (aCons (eC (.int 0)) (aCons (eBin .sub (eBt lenR (pCons (eV true 2) (aNil))) (eC (.int 1))) (aNil))))) (gT (gCons (gN 6) (gCons (gN 7) (gNil)))) (iE (eV true 4)) (tYes)) (aNil)))))
    (sSeq (sDead)
    (sNil))
    (sNil))
    (sSeq (sIf (tNot (tT (eBt allR (pCons (eComp (eCall F_is_number (aCons (eV false 6) (aCons (eC (.int 0)) (aCons (eBin .sub (eBin .mul (eV true 1) (eV true 1)) (eC (.int 1))) (aNil))))) (gT (gCons (gN 6) (gCons (gN 7) (gNil)))) (iE (eV true 4)) (tYes)) (aNil)))))
    (sSeq (sDead)
    (sNil))
    (sNil))
    (sSeq (sIf (tT (eCmp .lt (eLenset (eComp (eV false 6) (gT (gCons (gN 6) (gCons (gN 7) (gNil)))) (iE (eV true 4)) (tYes))) (eBin .mul (eV true 1) (eV true 1))))
    (sSeq (sDead)
    (sNil))
    (sNil))
    (sNil)))))))
    (sSeq (sSetFl flds 0 n_base (eV false 1))
    (sSeq (sSetFl flds 0 n_rows (eBt tupleR (pCons (eComp (eBt tupleR (pCons (eV true 4) (aNil))) (gN 4) (iE (eV true 2)) (tYes)) (aNil))))
    (sNil)))))
def F_Curve___init__ : FI := fnI 3 8 B_Curve___init__
/- 0 self, 1 other -/
def B_Curve___eq__ : SF := sSeq (sRet (eAnd (eIsc c_Curve (eV true 1)) (eCmp .eq (eTup (aCons (eAtt flds n_base (eV true 0)) (aCons (eAtt flds n_rows (eV true 0)) (aNil)))) (eTup (aCons (eAtt flds n_base (eV true 1)) (aCons (eAtt flds n_rows (eV true 1)) (aNil)))))))
    (sNil)
def F_Curve___eq__ : FF := fnR 2 2 B_Curve___eq__
/- 0 self -/
def B_Curve_parts : SF := sSeq (sRet (eBin .mul (eAtt flds n_base (eV true 0)) (eAtt flds n_base (eV true 0))))
    (sNil)
def F_Curve_parts : FF := fnR 1 1 B_Curve_parts
/- 0 self, 1 state, 2 part, 3 one, 4 late -/
def B_Curve_place : SF := sSeq (sRet (eIndex (eComp (eV false 3) (gT (gCons (gN 3) (gCons (gN 4) (gNil)))) (iE (eIx (eAtt flds n_rows (eV true 0)) (eV true 1))) (tYes)) (eV true 2)))
    (sNil)
def F_Curve_place : FF := fnR 3 5 B_Curve_place
/- 0 curve -/
def B_check_curve : SF := sSeq (sIf (tNot (tT (eIsc c_Curve (eV true 0))))
    (sSeq (sDead)
    (sNil))
    (sNil))
    (sNil)
def F_check_curve : FF := fnR 1 1 B_check_curve
/- 0 curve, 1 level -/
def B_check_level : SF := sSeq (sEx (eCall F_check_curve (aCons (eV false 0) (aNil))))
    (sSeq (sIf (tNot (tT (eCall F_is_number (aCons (eV false 1) (aCons (eC (.int 0)) (aCons (eC (.int 300)) (aNil)))))))
    (sSeq (sDead)
    (sNil))
    (sNil))
    (sNil))
def F_check_level : FF := fnR 2 2 B_check_level
/- 0 number, 1 times, 2 found, 3 turn -/
def B_power : SF := sSeq (sAsg (gN 2) (eC (.int 1)))
    (sSeq (sFor (gN 3) (iR1 (eV true 1))
    (sSeq (sAug 2 .mul (eV true 0))
    (sNil)))
    (sSeq (sRet (eV false 2))
    (sNil)))
def F_power : FF := fnR 2 4 B_power
/- 0 curve, 1 level -/
def B_side : SF := sSeq (sEx (eCall F_check_level (aCons (eV false 0) (aCons (eV false 1) (aNil)))))
    (sSeq (sRet (eCall F_power (aCons (eAtt flds n_base (eV true 0)) (aCons (eV false 1) (aNil)))))
    (sNil))
def F_side : FF := fnR 2 2 B_side
/- 0 curve, 1 level, 2 x, 3 y, 4 top -/
def B_check_cell : SF := sSeq (sAsg (gN 4) (eBin .sub (eCall F_side (aCons (eV false 0) (aCons (eV false 1) (aNil)))) (eC (.int 1))))
    (sSeq (sIf (tNot (tT (eCall F_is_number (aCons (eV false 2) (aCons (eC (.int 0)) (aCons (eV false 4) (aNil)))))))
    (sSeq (sDead)
    (sNil))
    (sNil))
    (sSeq (sIf (tNot (tT (eCall F_is_number (aCons (eV false 3) (aCons (eC (.int 0)) (aCons (eV false 4) (aNil)))))))
    (sSeq (sDead)
    (sNil))
    (sNil))
    (sNil)))
def F_check_cell : FF := fnR 4 5 B_check_cell
/- 0 curve, 1 level, 2 number -/
def B_check_number : SF := sSeq (sEx (eCall F_check_level (aCons (eV false 0) (aCons (eV false 1) (aNil)))))
    (sSeq (sIf (tNot (tT (eCall F_is_number (aCons (eV false 2) (aCons (eC (.int 0)) (aCons (eBin .sub (eCall F_power (aCons (eMeth c_Curve F_Curve_parts (eV false 0) aNil) (aCons (eV false 1) (aNil)))) (eC (.int 1))) (aNil)))))))
    (sSeq (sDead)
    (sNil))
    (sNil))
    (sNil))
def F_check_number : FF := fnR 3 3 B_check_number
/- 0 curve, 1 level, 2 x, 3 y, 4 state, 5 found, 6 size, 7 turn, 8 part, 9 place -/
def B_digits_of : SF := sSeq (sEx (eCall F_check_cell (aCons (eV false 0) (aCons (eV false 1) (aCons (eV false 2) (aCons (eV false 3) (aNil)))))))
    (sSeq (sPar [(4, false), (5, true), (6, false)] (rCons (eC (.int 0)) (rCons (eLst (aNil)) (rCons (eCall F_side (aCons (eV false 0) (aCons (eV false 1) (aNil)))) (rNil)))))
    (sSeq (sFor (gN 7) (iR1 (eV true 1))
    (sSeq (sAug 6 .fdiv (eAtt flds n_base (eV true 0)))
    (sSeq (sAsg (gN 8) (eBin .add (eBin .mul (eBin .mod (eBin .fdiv (eV true 3) (eV true 6)) (eAtt flds n_base (eV true 0))) (eAtt flds n_base (eV true 0))) (eBin .mod (eBin .fdiv (eV true 2) (eV true 6)) (eAtt flds n_base (eV true 0)))))
    (sSeq (sAsg (gN 9) (eMeth c_Curve F_Curve_place (eV false 0) (aCons (eV false 4) (aCons (eV false 8) (aNil)))))
    (sSeq (sAppend 5 (eV false 9))
    (sSeq (sAsg (gN 4) (eIx (eIx (eIx (eAtt flds n_rows (eV true 0)) (eV true 4)) (eV true 9)) (eC (.int 1))))
    (sNil)))))))
    (sSeq (sRetV 5)
    (sNil))))
def F_digits_of : FF := fnR 4 10 B_digits_of
/- 0 curve, 1 level, 2 x, 3 y, 4 found, 5 place -/
def B_number_of : SF := sSeq (sAsg (gN 4) (eC (.int 0)))
    (sSeq (sFor (gN 5) (iK (eCall F_digits_of (aCons (eV false 0) (aCons (eV false 1) (aCons (eV false 2) (aCons (eV false 3) (aNil)))))))
    (sSeq (sAsg (gN 4) (eBin .add (eBin .mul (eV true 4) (eMeth c_Curve F_Curve_parts (eV false 0) aNil)) (eV true 5)))
    (sNil)))
    (sSeq (sRet (eV false 4))
    (sNil)))
def F_number_of : FF := fnR 4 6 B_number_of
/- 0 curve, 1 level, 2 number, 3 found, 4 turn -/
def B_places_of : SF := sSeq (sEx (eCall F_check_number (aCons (eV false 0) (aCons (eV false 1) (aCons (eV false 2) (aNil))))))
    (sSeq (sAsgO 3 (eLst (aNil)))
    (sSeq (sFor (gN 4) (iR1 (eV true 1))
    (sSeq (sAppend 3 (eBin .mod (eV true 2) (eMeth c_Curve F_Curve_parts (eV false 0) aNil)))
    (sSeq (sAug 2 .fdiv (eMeth c_Curve F_Curve_parts (eV false 0) aNil))
    (sNil))))
    (sSeq (sRet (eRev (eV true 3)))
    (sNil))))
def F_places_of : FF := fnR 3 5 B_places_of
/- 0 curve, 1 state, 2 places, 3 x, 4 y, 5 place, 6 part -/
def B_cell_at : SF := sSeq (sPar [(3, false), (4, false)] (rCons (eC (.int 0)) (rCons (eC (.int 0)) (rNil))))
    (sSeq (sFor (gN 5) (iK (eV false 2))
    (sSeq (sAsg (gT (gCons (gN 6) (gCons (gN 1) (gNil)))) (eIx (eIx (eAtt flds n_rows (eV true 0)) (eV true 1)) (eV true 5)))
    (sSeq (sPar [(3, false), (4, false)] (rCons (eBin .add (eBin .mul (eV true 3) (eAtt flds n_base (eV true 0))) (eBin .mod (eV true 6) (eAtt flds n_base (eV true 0)))) (rCons (eBin .add (eBin .mul (eV true 4) (eAtt flds n_base (eV true 0))) (eBin .fdiv (eV true 6) (eAtt flds n_base (eV true 0)))) (rNil))))
    (sNil))))
    (sSeq (sRet (eTup (aCons (eV false 3) (aCons (eV false 4) (aNil)))))
    (sNil)))
def F_cell_at : FF := fnR 3 7 B_cell_at
/- 0 curve, 1 level, 2 number -/
def B_cell_of : SF := sSeq (sRet (eCall F_cell_at (aCons (eV false 0) (aCons (eC (.int 0)) (aCons (eCall F_places_of (aCons (eV false 0) (aCons (eV false 1) (aCons (eV false 2) (aNil))))) (aNil))))))
    (sNil)
def F_cell_of : FF := fnR 3 3 B_cell_of
/- 0 curve, 1 level, 2 number, 3 state, 4 place -/
def B_state_of : SF := sSeq (sAsg (gN 3) (eC (.int 0)))
    (sSeq (sFor (gN 4) (iK (eCall F_places_of (aCons (eV false 0) (aCons (eV false 1) (aCons (eV false 2) (aNil))))))
    (sSeq (sAsg (gN 3) (eIx (eIx (eIx (eAtt flds n_rows (eV true 0)) (eV true 3)) (eV true 4)) (eC (.int 1))))
    (sNil)))
    (sSeq (sRet (eV false 3))
    (sNil)))
def F_state_of : FF := fnR 3 5 B_state_of
/- 0 script, 1 index, 2 cell, 3 turn, 4 rest, 5 step, 6 blend -/
def B__law_number : SF := sSeq (sAsg (gT (gCons (gN 2) (gCons (gN 3) (gNil)))) (eIf (tT (eCmp .ne (eV true 0) (eLst (aNil)))) (eTup (aCons (eIx (eV true 0) (eBin .mod (eV true 1) (eBt lenR (pCons (eV true 0) (aNil))))) (aCons (eBin .fdiv (eV true 1) (eBt lenR (pCons (eV true 0) (aNil)))) (aNil)))) (eTup (aCons (eC (.int 12345)) (aCons (eC (.int 0)) (aNil))))))
    (sSeq (sAsg (gN 4) (eIf (tT (eCmp .lt (eV true 3) (eC (.int 60)))) (eBin .sub (eV true 2) (eBin .pow (eC (.int 10)) (eC (.int 18)))) (eC (.int 0))))
    (sSeq (sFor (gN 5) (iR1 (eBin .mod (eBt intR (pCons (eV true 3) (aNil))) (eC (.int 60))))
    (sSeq (sAsg (gN 4) (eBin .fdiv (eV true 4) (eC (.int 1009))))
    (sNil)))
    (sSeq (sIf (tT (eCmp .gt (eV true 4) (eC (.int 0))))
    (sSeq (sRet (eBin .mod (eBt intR (pCons (eV true 4) (aNil))) (eC (.int 1009))))
    (sNil))
    (sNil))
    (sSeq (sAsg (gN 6) (eBin .mod (eBin .add (eBin .mul (eBt intR (pCons (eBin .add (eV true 2) (eBin .mul (eC (.int 977)) (eV true 1))) (aNil))) (eC (.int 48271))) (eBin .mul (eC (.int 31)) (eBt lenR (pCons (eV true 0) (aNil))))) (eC (.int 2147483647))))
    (sSeq (sAsg (gN 6) (eBin .mod (eBin .add (eBin .mul (eV true 6) (eV true 6)) (eBin .mul (eC (.int 40503)) (eV true 1))) (eC (.int 2147483629))))
    (sSeq (sRet (eBt intR (pCons (eBin .mod (eBin .add (eBin .mul (eV true 6) (eC (.int 69621))) (eBin .fdiv (eV true 6) (eC (.int 977)))) (eC (.int 2147483587))) (aNil))))
    (sNil)))))))
def F__law_number : FF := fnR 2 7 B__law_number
/- 0 draw, 1 many -/
def B__law_take : SF := sSeq (sAugCell 0 .add (eC (.int 1)) (eC (.int 1)))
    (sSeq (sRet (eBin .mod (eBt intR (pCons (eCall F__law_number (aCons (eIx (eV true 0) (eC (.int 0))) (aCons (eBt intR (pCons (eIx (eV true 0) (eC (.int 1))) (aNil))) (aNil)))) (aNil))) (eV true 1)))
    (sNil))
def F__law_take : FF := fnR 2 2 B__law_take
/- 0 draw, 1 items -/
def B__law_pick : SF := sSeq (sRet (eIx (eV true 1) (eCall F__law_take (aCons (eV false 0) (aCons (eBt lenR (pCons (eV true 1) (aNil))) (aNil))))))
    (sNil)
def F__law_pick : FF := fnR 2 2 B__law_pick
/- 0 draw, 1 base, 2 most, 3 many, 4 found, 5 state, 6 row, 7 place, 8 part, 9 one -/
def B__law_rows : SF := sSeq (sPar [(3, false), (4, true)] (rCons (eBin .add (eC (.int 1)) (eCall F__law_take (aCons (eV false 0) (aCons (eV false 2) (aNil))))) (rCons (eLst (aNil)) (rNil))))
    (sSeq (sFor (gN 5) (iR1 (eV true 3))
    (sSeq (sAsgO 6 (eLst (aNil)))
    (sSeq (sFor (gN 7) (iR1 (eBin .mul (eV true 1) (eV true 1)))
    (sSeq (sAppend 6 (eTup (aCons (eCall F__law_pick (aCons (eV false 0) (aCons (eComp (eV false 8) (gN 8) (iR1 (eBin .mul (eV true 1) (eV true 1))) (tT (eCmp .notin (eV true 8) (eComp (eIx (eV true 9) (eC (.int 0))) (gN 9) (iE (eV true 6)) (tYes))))) (aNil)))) (aCons (eCall F__law_take (aCons (eV false 0) (aCons (eV false 3) (aNil)))) (aNil)))))
    (sNil)))
    (sSeq (sFrz [6] (sAppend 4 (eV false 6)))
    (sNil)))))
    (sSeq (sRetV 4)
    (sNil)))
def F__law_rows : FF := fnR 3 10 B__law_rows
/- 0 draw, 1 most, 2 way, 3 base -/
def B__law_curve : SF := sSeq (sAsg (gN 2) (eCall F__law_take (aCons (eV false 0) (aCons (eC (.int 7)) (aNil)))))
    (sSeq (sIf (tT (eCmp .eq (eV true 2) (eC (.int 0))))
    (sSeq (sRet (eTup (aCons (eC (.int 2)) (aCons (eLst (aCons (eLst (aCons (eTup (aCons (eC (.int 0)) (aCons (eC (.int 1)) (aNil)))) (aCons (eTup (aCons (eC (.int 2)) (aCons (eC (.int 0)) (aNil)))) (aCons (eTup (aCons (eC (.int 3)) (aCons (eC (.int 0)) (aNil)))) (aCons (eTup (aCons (eC (.int 1)) (aCons (eC (.int 2)) (aNil)))) (aNil)))))) (aCons (eLst (aCons (eTup (aCons (eC (.int 0)) (aCons (eC (.int 0)) (aNil)))) (aCons (eTup (aCons (eC (.int 1)) (aCons (eC (.int 1)) (aNil)))) (aCons (eTup (aCons (eC (.int 3)) (aCons (eC (.int 1)) (aNil)))) (aCons (eTup (aCons (eC (.int 2)) (aCons (eC (.int 3)) (aNil)))) (aNil)))))) (aCons (eLst (aCons (eTup (aCons (eC (.int 3)) (aCons (eC (.int 3)) (aNil)))) (aCons (eTup (aCons (eC (.int 2)) (aCons (eC (.int 2)) (aNil)))) (aCons (eTup (aCons (eC (.int 0)) (aCons (eC (.int 2)) (aNil)))) (aCons (eTup (aCons (eC (.int 1)) (aCons (eC (.int 0)) (aNil)))) (aNil)))))) (aCons (eLst (aCons (eTup (aCons (eC (.int 3)) (aCons (eC (.int 2)) (aNil)))) (aCons (eTup (aCons (eC (.int 1)) (aCons (eC (.int 3)) (aNil)))) (aCons (eTup (aCons (eC (.int 0)) (aCons (eC (.int 3)) (aNil)))) (aCons (eTup (aCons (eC (.int 2)) (aCons (eC (.int 1)) (aNil)))) (aNil)))))) (aNil)))))) (aNil)))))
    (sNil))
    (sNil))
    (sSeq (sIf (tT (eCmp .eq (eV true 2) (eC (.int 1))))
    (sSeq (sRet (eTup (aCons (eC (.int 2)) (aCons (eLst (aCons (eLst (aCons (eTup (aCons (eC (.int 0)) (aCons (eC (.int 0)) (aNil)))) (aCons (eTup (aCons (eC (.int 1)) (aCons (eC (.int 1)) (aNil)))) (aCons (eTup (aCons (eC (.int 3)) (aCons (eC (.int 0)) (aNil)))) (aCons (eTup (aCons (eC (.int 2)) (aCons (eC (.int 1)) (aNil)))) (aNil)))))) (aCons (eLst (aCons (eTup (aCons (eC (.int 3)) (aCons (eC (.int 1)) (aNil)))) (aCons (eTup (aCons (eC (.int 2)) (aCons (eC (.int 0)) (aNil)))) (aCons (eTup (aCons (eC (.int 0)) (aCons (eC (.int 1)) (aNil)))) (aCons (eTup (aCons (eC (.int 1)) (aCons (eC (.int 0)) (aNil)))) (aNil)))))) (aNil)))) (aNil)))))
    (sNil))
    (sNil))
    (sSeq (sAsg (gN 3) (eIf (tT (eCmp .eq (eV true 2) (eC (.int 2)))) (eC (.int 3)) (eC (.int 2))))
    (sSeq (sRet (eTup (aCons (eV false 3) (aCons (eCall F__law_rows (aCons (eV false 0) (aCons (eV false 3) (aCons (eV false 1) (aNil))))) (aNil)))))
    (sNil)))))
def F__law_curve : FF := fnR 2 4 B__law_curve
/- 0 told, 1 level, 2 base, 3 rows, 4 found, 5 turn, 6 late, 7 x, 8 y, 9 state, 10 places, 11 place, 12 part, 13 goal -/
def B__law_numbered : SF := sSeq (sAsg (gT (gCons (gN 2) (gCons (gN 3) (gNil)))) (eV false 0))
    (sSeq (sAsg (gN 4) (eLst (aCons (eTup (aCons (eC (.int 0)) (aCons (eC (.int 0)) (aCons (eC (.int 0)) (aCons (eTup (aNil)) (aNil)))))) (aNil))))
    (sSeq (sFor (gN 5) (iR1 (eV true 1))
    (sSeq (sAsg (gN 6) (eLst (aNil)))
    (sSeq (sFor (gT (gCons (gN 7) (gCons (gN 8) (gCons (gN 9) (gCons (gN 10) (gNil)))))) (iK (eV false 4))
    (sSeq (sAsg (gN 6) (eBin .add (eV true 6) (eComp (eTup (aCons (eBin .add (eBin .mul (eV true 7) (eV true 2)) (eBin .mod (eV true 12) (eV true 2))) (aCons (eBin .add (eBin .mul (eV true 8) (eV true 2)) (eBin .fdiv (eV true 12) (eV true 2))) (aCons (eV false 13) (aCons (eBin .add (eV true 10) (eTup (aCons (eV false 11) (aNil)))) (aNil)))))) (gT (gCons (gN 11) (gCons (gT (gCons (gN 12) (gCons (gN 13) (gNil)))) (gNil)))) (iEnum (eIx (eV true 3) (eV true 9))) (tYes))))
    (sNil)))
    (sSeq (sAsg (gN 4) (eV false 6))
    (sNil)))))
    (sSeq (sRet (eV false 4))
    (sNil))))
def F__law_numbered : FF := fnR 2 14 B__law_numbered
/- 0 told -/
def B__law_built : SF := sSeq (sRet (eMk c_Curve F_Curve___init__ (aCons (eIx (eV true 0) (eC (.int 0))) (aCons (eIx (eV true 0) (eC (.int 1))) (aNil)))))
    (sNil)
def F__law_built : FF := fnR 1 1 B__law_built
/- 0 script, 1 draw, 2 turn, 3 told, 4 base, 5 rows, 6 curve, 7 level, 8 places, 9 state, 10 x, 11 y, 12 number, 13 states, 14 again, 15 place, 16 part, 17 goal, 18 up, 19 whole, 20 far, 21 last, 22 near, 23 small, 24 every, 25 at, 26 one -/
def B_law : SF := sSeq (sAsg (gN 1) (eCell (aCons (eV false 0) (aCons (eC (.int 0)) (aNil)))))
    (sSeq (sFor (gN 2) (iR1 (eC (.int 6)))
    (sSeq (sAsg (gN 3) (eCall F__law_curve (aCons (eV false 1) (aCons (eC (.int 4)) (aNil)))))
    (sSeq (sAsg (gT (gCons (gN 4) (gCons (gN 5) (gNil)))) (eV false 3))
    (sSeq (sPar [(6, false), (7, false)] (rCons (eCall F__law_built (aCons (eV false 3) (aNil))) (rCons (eBin .add (eC (.int 1)) (eCall F__law_take (aCons (eV false 1) (aCons (eC (.int 40)) (aNil))))) (rNil))))
    (sSeq (sPar [(8, false), (9, false), (10, false), (11, false), (12, false), (13, true)] (rCons (eLst (aNil)) (rCons (eC (.int 0)) (rCons (eC (.int 0)) (rCons (eC (.int 0)) (rCons (eC (.int 0)) (rCons (eLst (aCons (eC (.int 0)) (aNil))) (rNil))))))))
    (sSeq (sFor (gN 14) (iR1 (eV true 7))
    (sSeq (sAsg (gN 15) (eCall F__law_take (aCons (eV false 1) (aCons (eBin .mul (eV true 4) (eV true 4)) (aNil)))))
    (sSeq (sAsg (gT (gCons (gN 16) (gCons (gN 17) (gNil)))) (eIx (eIx (eV true 5) (eV true 9)) (eV true 15)))
    (sSeq (sPar [(8, false), (9, false), (10, false), (11, false), (12, false)] (rCons (eBin .add (eV true 8) (eLst (aCons (eV false 15) (aNil)))) (rCons (eV false 17) (rCons (eBin .add (eBin .mul (eV true 10) (eV true 4)) (eBin .mod (eV true 16) (eV true 4))) (rCons (eBin .add (eBin .mul (eV true 11) (eV true 4)) (eBin .fdiv (eV true 16) (eV true 4))) (rCons (eBin .add (eBin .mul (eBin .mul (eV true 12) (eV true 4)) (eV true 4)) (eV true 15)) (rNil)))))))
    (sSeq (sAppend 13 (eV false 9))
    (sNil))))))
    (sSeq (sIf (tOr (tT (eCmp .ne (eCall F_number_of (aCons (eV false 6) (aCons (eV false 7) (aCons (eV false 10) (aCons (eV false 11) (aNil)))))) (eV true 12))) (tOr (tT (eCmp .ne (eBt tupleR (pCons (eCall F_cell_of (aCons (eV false 6) (aCons (eV false 7) (aCons (eV false 12) (aNil))))) (aNil))) (eTup (aCons (eV false 10) (aCons (eV false 11) (aNil)))))) (tOr (tT (eCmp .ne (eCall F_state_of (aCons (eV false 6) (aCons (eV false 7) (aCons (eV false 12) (aNil))))) (eV true 9))) (tOr (tT (eCmp .ne (eBt listR (pCons (eCall F_places_of (aCons (eV false 6) (aCons (eV false 7) (aCons (eV false 12) (aNil))))) (aNil))) (eV true 8))) (tT (eCmp .ne (eBt listR (pCons (eCall F_digits_of (aCons (eV false 6) (aCons (eV false 7) (aCons (eV false 10) (aCons (eV false 11) (aNil)))))) (aNil))) (eV true 8)))))))
    (sSeq (sRet (eC (.bl false)))
    (sNil))
    (sNil))
    (sSeq (sFor (gN 18) (iK (eTup (aCons (eC (.int 1)) (aCons (eBin .fdiv (eV true 7) (eC (.int 2))) (aCons (eV false 7) (aNil))))))
    (sSeq (sPar [(19, false), (20, false)] (rCons (eC (.int 1)) (rCons (eC (.int 1)) (rNil))))
    (sSeq (sFor (gN 14) (iR1 (eV true 18))
    (sSeq (sPar [(19, false), (20, false)] (rCons (eBin .mul (eBin .mul (eV true 19) (eV true 4)) (eV true 4)) (rCons (eBin .mul (eV true 20) (eV true 4)) (rNil))))
    (sNil)))
    (sSeq (sIf (tOr (tT (eCmp .ne (eCall F_number_of (aCons (eV false 6) (aCons (eBin .sub (eV true 7) (eV true 18)) (aCons (eBin .fdiv (eV true 10) (eV true 20)) (aCons (eBin .fdiv (eV true 11) (eV true 20)) (aNil)))))) (eBin .fdiv (eV true 12) (eV true 19)))) (tOr (tT (eCmp .ne (eBt tupleR (pCons (eCall F_cell_of (aCons (eV false 6) (aCons (eBin .sub (eV true 7) (eV true 18)) (aCons (eBin .fdiv (eV true 12) (eV true 19)) (aNil))))) (aNil))) (eTup (aCons (eBin .fdiv (eV true 10) (eV true 20)) (aCons (eBin .fdiv (eV true 11) (eV true 20)) (aNil)))))) (tOr (tT (eCmp .ne (eCall F_state_of (aCons (eV false 6) (aCons (eBin .sub (eV true 7) (eV true 18)) (aCons (eBin .fdiv (eV true 12) (eV true 19)) (aNil))))) (eIx (eV true 13) (eBin .sub (eV true 7) (eV true 18))))) (tT (eCmp .ne (eCall F_side (aCons (eV false 6) (aCons (eV false 7) (aNil)))) (eBin .mul (eV true 20) (eCall F_side (aCons (eV false 6) (aCons (eBin .sub (eV true 7) (eV true 18)) (aNil))))))))))
    (sSeq (sRet (eC (.bl false)))
    (sNil))
    (sNil))
    (sSeq (sIf (tT (eCmp .ne (eBt listR (pCons (eCall F_places_of (aCons (eV false 6) (aCons (eBin .sub (eV true 7) (eV true 18)) (aCons (eBin .fdiv (eV true 12) (eV true 19)) (aNil))))) (aNil))) (eSl (eV true 8) (oNo) (oE (eBin .sub (eV true 7) (eV true 18))))))
    (sSeq (sRet (eC (.bl false)))
    (sNil))
    (sNil))
    (sNil))))))
    (sSeq (sAsg (gN 21) (eBin .sub (eV true 12) (eBin .mod (eV true 12) (eBin .mul (eV true 4) (eV true 4)))))
    (sSeq (sAsg (gN 22) (eBt sortedR (pCons (eComp (eBt tupleR (pCons (eCall F_cell_of (aCons (eV false 6) (aCons (eV false 7) (aCons (eBin .add (eV true 21) (eV true 15)) (aNil))))) (aNil))) (gN 15) (iR1 (eBin .mul (eV true 4) (eV true 4))) (tYes)) (aNil))))
    (sSeq (sIf (tOr (tT (eCmp .ne (eV true 22) (eBt sortedR (pCons (eComp (eTup (aCons (eBin .add (eBin .sub (eV true 10) (eBin .mod (eV true 10) (eV true 4))) (eBin .mod (eV true 16) (eV true 4))) (aCons (eBin .add (eBin .sub (eV true 11) (eBin .mod (eV true 11) (eV true 4))) (eBin .fdiv (eV true 16) (eV true 4))) (aNil)))) (gN 16) (iR1 (eBin .mul (eV true 4) (eV true 4))) (tYes)) (aNil))))) (tOr (tT (eCmp .ne (eCall F_number_of (aCons (eV false 6) (aCons (eC (.int 0)) (aCons (eC (.int 0)) (aCons (eC (.int 0)) (aNil)))))) (eC (.int 0)))) (tT (eCmp .ne (eBt tupleR (pCons (eCall F_cell_of (aCons (eV false 6) (aCons (eC (.int 0)) (aCons (eC (.int 0)) (aNil))))) (aNil))) (eTup (aCons (eC (.int 0)) (aCons (eC (.int 0)) (aNil))))))))
    (sSeq (sRet (eC (.bl false)))
    (sNil))
    (sNil))
    (sSeq (sAsg (gN 23) (eCall F__law_take (aCons (eV false 1) (aCons (eC (.int 3)) (aNil)))))
    (sSeq (sAsg (gN 24) (eCall F__law_numbered (aCons (eV false 3) (aCons (eV false 23) (aNil)))))
    (sSeq (sIf (tT (eBt anyR (pCons (eComp (eOr (eCmp .ne (eBt tupleR (pCons (eCall F_cell_of (aCons (eV false 6) (aCons (eV false 23) (aCons (eV false 25) (aNil))))) (aNil))) (eTup (aCons (eIx (eV true 26) (eC (.int 0))) (aCons (eIx (eV true 26) (eC (.int 1))) (aNil))))) (eOr (eCmp .ne (eCall F_state_of (aCons (eV false 6) (aCons (eV false 23) (aCons (eV false 25) (aNil))))) (eIx (eV true 26) (eC (.int 2)))) (eCmp .ne (eBt tupleR (pCons (eCall F_places_of (aCons (eV false 6) (aCons (eV false 23) (aCons (eV false 25) (aNil))))) (aNil))) (eIx (eV true 26) (eC (.int 3)))))) (gT (gCons (gN 25) (gCons (gN 26) (gNil)))) (iEnum (eV true 24)) (tYes)) (aNil))))
    (sSeq (sRet (eC (.bl false)))
    (sNil))
    (sNil))
    (sNil)))))))))))))))
    (sSeq (sRet (eC (.bl true)))
    (sNil)))
def F_law : FF := fnR 1 27 B_law
end CC.K26
end

section
namespace CC.K26
open CC PySem
/-! ### small ones -/
theorem is_integer_int (i : Int) (S : Sto) : F_is_integer [.int i] S = .ok (.sh, .bl true) S := by
  simp only [fnR, fnI, fin0, sSeq, sNil, sAsg, sAsgO, sPar, parE, slOf, sIf, sFor, sRet, sRetV, sRetN, sEx, sAug, augR, sAppend, sFrz, frzE, sSetFl, sDead, eC, eV, lookR, CC.e1, CC.e2, eBin, eNeg, eNot, eCmp, eChn, eAnd, eOr, eIf, aNil, aCons, pCons, rNil, rCons, eTup, eLst, eCell, eIx, oNo, oE, eSl, eRev, eAtt, eCall, eMk, eBt, eIsi, eIsc, eIndex, eComp, eLenset, tT, tNot, tAnd, tOr, tYes, gN, gNil, gCons, gT, iE, iK, iR1, iR2, iR3, iEnum, iEnumK, iZip, iZipK, itemsR, negR, revR, slR, kp_sh, kp_ow, okS, okO, Res.bind_ok, Res.bind_bad, truthR, binR, addR, subR, mulR, fdivR, modR, powR, cmpR, leR, ltR, isR, isNon, isiR, isTyp, tyIs, List.any, List.all, lenR, absR, minR, maxR, intR, boolR, listR, tupleR, List.set_cons_zero, List.set_cons_succ, List.getElem?_cons_zero, List.getElem?_cons_succ, List.length_cons, List.length_nil, List.map_cons, List.map_nil, List.replicate_zero, List.replicate_succ, List.cons_append, List.nil_append, List.append_nil, Nat.reduceAdd, Nat.reduceSub, Nat.reduceEqDiff, Nat.reduceMul, Nat.reduceLT, Nat.reduceLeDiff, Nat.zero_add, Option.bind_some, Option.map_some, if_true, if_false, ite_true, ite_false, reduceIte, reduceCtorEq, Bool.not_true, Bool.not_false, Bool.true_and, Bool.false_and, Bool.and_true, Bool.and_false, Bool.or_true, Bool.or_false, Bool.true_or, Bool.false_or, beq_self_eq_true, bne_self_eq_false, ne_eq, not_true_eq_false, not_false_eq_true, Option.some.injEq, Prod.mk.injEq, and_self, and_true, true_and, decide_true, decide_false, Bool.false_eq_true, F_is_integer, B_is_integer]
  rfl
theorem is_number_int (i a b : Int) (S : Sto) : F_is_number [.int i, .int a, .int b] S = .ok (.sh, .bl (decide (a ≤ i) && decide (i ≤ b))) S := by
  simp only [fnR, fnI, fin0, sSeq, sNil, sAsg, sAsgO, sPar, parE, slOf, sIf, sFor, sRet, sRetV, sRetN, sEx, sAug, augR, sAppend, sFrz, frzE, sSetFl, sDead, eC, eV, lookR, CC.e1, CC.e2, eBin, eNeg, eNot, eCmp, eChn, eAnd, eOr, eIf, aNil, aCons, pCons, rNil, rCons, eTup, eLst, eCell, eIx, oNo, oE, eSl, eRev, eAtt, eCall, eMk, eBt, eIsi, eIsc, eIndex, eComp, eLenset, tT, tNot, tAnd, tOr, tYes, gN, gNil, gCons, gT, iE, iK, iR1, iR2, iR3, iEnum, iEnumK, iZip, iZipK, itemsR, negR, revR, slR, kp_sh, kp_ow, okS, okO, Res.bind_ok, Res.bind_bad, truthR, binR, addR, subR, mulR, fdivR, modR, powR, cmpR, leR, ltR, isR, isNon, isiR, isTyp, tyIs, List.any, List.all, lenR, absR, minR, maxR, intR, boolR, listR, tupleR, List.set_cons_zero, List.set_cons_succ, List.getElem?_cons_zero, List.getElem?_cons_succ, List.length_cons, List.length_nil, List.map_cons, List.map_nil, List.replicate_zero, List.replicate_succ, List.cons_append, List.nil_append, List.append_nil, Nat.reduceAdd, Nat.reduceSub, Nat.reduceEqDiff, Nat.reduceMul, Nat.reduceLT, Nat.reduceLeDiff, Nat.zero_add, Option.bind_some, Option.map_some, if_true, if_false, ite_true, ite_false, reduceIte, reduceCtorEq, Bool.not_true, Bool.not_false, Bool.true_and, Bool.false_and, Bool.and_true, Bool.and_false, Bool.or_true, Bool.or_false, Bool.true_or, Bool.false_or, beq_self_eq_true, bne_self_eq_false, ne_eq, not_true_eq_false, not_false_eq_true, Option.some.injEq, Prod.mk.injEq, and_self, and_true, true_and, decide_true, decide_false, Bool.false_eq_true, F_is_number, B_is_number, is_integer_int]
  by_cases h : a ≤ i <;> simp [h]
theorem is_number_ok {i a b : Int} (h : a ≤ i) (h2 : i ≤ b) (S : Sto) : F_is_number [.int i, .int a, .int b] S = .ok (.sh, .bl true) S := by
  rw [is_number_int]; simp [h, h2]
theorem is_row_lst (xs : List D) (S : Sto) : F_is_row [.lst xs] S = .ok (.sh, .bl true) S := by
  simp only [fnR, fnI, fin0, sSeq, sNil, sAsg, sAsgO, sPar, parE, slOf, sIf, sFor, sRet, sRetV, sRetN, sEx, sAug, augR, sAppend, sFrz, frzE, sSetFl, sDead, eC, eV, lookR, CC.e1, CC.e2, eBin, eNeg, eNot, eCmp, eChn, eAnd, eOr, eIf, aNil, aCons, pCons, rNil, rCons, eTup, eLst, eCell, eIx, oNo, oE, eSl, eRev, eAtt, eCall, eMk, eBt, eIsi, eIsc, eIndex, eComp, eLenset, tT, tNot, tAnd, tOr, tYes, gN, gNil, gCons, gT, iE, iK, iR1, iR2, iR3, iEnum, iEnumK, iZip, iZipK, itemsR, negR, revR, slR, kp_sh, kp_ow, okS, okO, Res.bind_ok, Res.bind_bad, truthR, binR, addR, subR, mulR, fdivR, modR, powR, cmpR, leR, ltR, isR, isNon, isiR, isTyp, tyIs, List.any, List.all, lenR, absR, minR, maxR, intR, boolR, listR, tupleR, List.set_cons_zero, List.set_cons_succ, List.getElem?_cons_zero, List.getElem?_cons_succ, List.length_cons, List.length_nil, List.map_cons, List.map_nil, List.replicate_zero, List.replicate_succ, List.cons_append, List.nil_append, List.append_nil, Nat.reduceAdd, Nat.reduceSub, Nat.reduceEqDiff, Nat.reduceMul, Nat.reduceLT, Nat.reduceLeDiff, Nat.zero_add, Option.bind_some, Option.map_some, if_true, if_false, ite_true, ite_false, reduceIte, reduceCtorEq, Bool.not_true, Bool.not_false, Bool.true_and, Bool.false_and, Bool.and_true, Bool.and_false, Bool.or_true, Bool.or_false, Bool.true_or, Bool.false_or, beq_self_eq_true, bne_self_eq_false, ne_eq, not_true_eq_false, not_false_eq_true, Option.some.injEq, Prod.mk.injEq, and_self, and_true, true_and, decide_true, decide_false, Bool.false_eq_true, F_is_row, B_is_row]
theorem power_ok (b t : Nat) (hb : b < 100) (ht : t < 1000) (S : Sto) : F_power [.int b, .int t] S = .ok (.sh, .int ((b ^ t : Nat) : Int)) S := by
  have hr : Rng62 (t : Int) := rng62 (by omega)
  have hs : Small (b : Int) := small_nat (by omega)
  obtain ⟨ρ', S', h, x, rfl, rfl⟩ := forL_range (g := gN 3) (body := sSeq (sAug 2 .mul (eV true 0)) sNil) (fun k ρ S' => ∃ x, ρ = [.sh (.int b), .sh (.int t), .sh (.int ((b ^ k : Nat) : Int)), x] ∧ S' = S) 0 t [.sh (.int b), .sh (.int t), .sh (.int 1), .no] S ⟨.no, by simp, rfl⟩ (by
    rintro j ρ S' hj ⟨x, rfl, rfl⟩
    refine ⟨_, [.sh (.int b), .sh (.int t), .sh (.int ((b ^ (j + 1) : Nat) : Int)), .sh (.int (0 + j))], S', rfl, .inl ?_, _, rfl, rfl⟩
    simp only [fnR, fnI, fin0, sSeq, sNil, sAsg, sAsgO, sPar, parE, slOf, sIf, sFor, sRet, sRetV, sRetN, sEx, sAug, augR, sAppend, sFrz, frzE, sSetFl, sDead, eC, eV, lookR, CC.e1, CC.e2, eBin, eNeg, eNot, eCmp, eChn, eAnd, eOr, eIf, aNil, aCons, pCons, rNil, rCons, eTup, eLst, eCell, eIx, oNo, oE, eSl, eRev, eAtt, eCall, eMk, eBt, eIsi, eIsc, eIndex, eComp, eLenset, tT, tNot, tAnd, tOr, tYes, gN, gNil, gCons, gT, iE, iK, iR1, iR2, iR3, iEnum, iEnumK, iZip, iZipK, itemsR, negR, revR, slR, kp_sh, kp_ow, okS, okO, Res.bind_ok, Res.bind_bad, truthR, binR, addR, subR, mulR, fdivR, modR, powR, cmpR, leR, ltR, isR, isNon, isiR, isTyp, tyIs, List.any, List.all, lenR, absR, minR, maxR, intR, boolR, listR, tupleR, List.set_cons_zero, List.set_cons_succ, List.getElem?_cons_zero, List.getElem?_cons_succ, List.length_cons, List.length_nil, List.map_cons, List.map_nil, List.replicate_zero, List.replicate_succ, List.cons_append, List.nil_append, List.append_nil, Nat.reduceAdd, Nat.reduceSub, Nat.reduceEqDiff, Nat.reduceMul, Nat.reduceLT, Nat.reduceLeDiff, Nat.zero_add, Option.bind_some, Option.map_some, if_true, if_false, ite_true, ite_false, reduceIte, reduceCtorEq, Bool.not_true, Bool.not_false, Bool.true_and, Bool.false_and, Bool.and_true, Bool.and_false, Bool.or_true, Bool.or_false, Bool.true_or, Bool.false_or, beq_self_eq_true, bne_self_eq_false, ne_eq, not_true_eq_false, not_false_eq_true, Option.some.injEq, Prod.mk.injEq, and_self, and_true, true_and, decide_true, decide_false, Bool.false_eq_true, hs, or_true]
    simp [Nat.pow_succ])
  simp only [fnR, fnI, fin0, sSeq, sNil, sAsg, sAsgO, sPar, parE, slOf, sIf, sFor, sRet, sRetV, sRetN, sEx, sAug, augR, sAppend, sFrz, frzE, sSetFl, sDead, eC, eV, lookR, CC.e1, CC.e2, eBin, eNeg, eNot, eCmp, eChn, eAnd, eOr, eIf, aNil, aCons, pCons, rNil, rCons, eTup, eLst, eCell, eIx, oNo, oE, eSl, eRev, eAtt, eCall, eMk, eBt, eIsi, eIsc, eIndex, eComp, eLenset, tT, tNot, tAnd, tOr, tYes, gN, gNil, gCons, gT, iE, iK, iR1, iR2, iR3, iEnum, iEnumK, iZip, iZipK, itemsR, negR, revR, slR, kp_sh, kp_ow, okS, okO, Res.bind_ok, Res.bind_bad, truthR, binR, addR, subR, mulR, fdivR, modR, powR, cmpR, leR, ltR, isR, isNon, isiR, isTyp, tyIs, List.any, List.all, lenR, absR, minR, maxR, intR, boolR, listR, tupleR, List.set_cons_zero, List.set_cons_succ, List.getElem?_cons_zero, List.getElem?_cons_succ, List.length_cons, List.length_nil, List.map_cons, List.map_nil, List.replicate_zero, List.replicate_succ, List.cons_append, List.nil_append, List.append_nil, Nat.reduceAdd, Nat.reduceSub, Nat.reduceEqDiff, Nat.reduceMul, Nat.reduceLT, Nat.reduceLeDiff, Nat.zero_add, Option.bind_some, Option.map_some, if_true, if_false, ite_true, ite_false, reduceIte, reduceCtorEq, Bool.not_true, Bool.not_false, Bool.true_and, Bool.false_and, Bool.and_true, Bool.and_false, Bool.or_true, Bool.or_false, Bool.true_or, Bool.false_or, beq_self_eq_true, bne_self_eq_false, ne_eq, not_true_eq_false, not_false_eq_true, Option.some.injEq, Prod.mk.injEq, and_self, and_true, true_and, decide_true, decide_false, Bool.false_eq_true, F_power, B_power, hr, Int.toNat_natCast, h]
/-! ### curves -/
def pr (p : Nat × Nat) : D := .tup [.int p.1, .int p.2]
def cvD (b : Nat) (rows : List (List (Nat × Nat))) : D := .obj c_Curve [.int b, .tup (rows.map fun r => .tup (r.map pr))]
structure Cv (b : Nat) (rows : List (List (Nat × Nat))) : Prop where
  hb : b = 2 ∨ b = 3
  n1 : 1 ≤ rows.length
  n2 : rows.length ≤ 16
  len : ∀ r ∈ rows, r.length = b * b
  lt : ∀ r ∈ rows, ∀ p ∈ r, p.1 < b * b ∧ p.2 < rows.length
  nd : ∀ r ∈ rows, (r.map (·.1)).Nodup
theorem att_base (x : D) (r : List D) (S : Sto) : attR flds n_base (.obj c_Curve (x :: r)) S = .ok (.sh, x) S := rfl
theorem att_rows (x y : D) (r : List D) (S : Sto) : attR flds n_rows (.obj c_Curve (x :: y :: r)) S = .ok (.sh, y) S := rfl
theorem isc_cv (fs : List D) (S : Sto) : iscR c_Curve (.obj c_Curve fs) S = .ok (.sh, .bl true) S := rfl
theorem cv_if {α : Type} (a b : α) : (if c_Curve = c_Curve then a else b) = a := rfl
theorem check_curve_ok (b : Nat) (rows : List (List (Nat × Nat))) (S : Sto) : F_check_curve [cvD b rows] S = .ok (.sh, .non) S := by
  simp only [fnR, fnI, fin0, sSeq, sNil, sAsg, sAsgO, sPar, parE, slOf, sIf, sFor, sRet, sRetV, sRetN, sEx, sAug, augR, sAppend, sFrz, frzE, sSetFl, sDead, eC, eV, lookR, CC.e1, CC.e2, eBin, eNeg, eNot, eCmp, eChn, eAnd, eOr, eIf, aNil, aCons, pCons, rNil, rCons, eTup, eLst, eCell, eIx, oNo, oE, eSl, eRev, eAtt, eCall, eMk, eBt, eIsi, eIsc, eIndex, eComp, eLenset, tT, tNot, tAnd, tOr, tYes, gN, gNil, gCons, gT, iE, iK, iR1, iR2, iR3, iEnum, iEnumK, iZip, iZipK, itemsR, negR, revR, slR, kp_sh, kp_ow, okS, okO, Res.bind_ok, Res.bind_bad, truthR, binR, addR, subR, mulR, fdivR, modR, powR, cmpR, leR, ltR, isR, isNon, isiR, isTyp, tyIs, List.any, List.all, lenR, absR, minR, maxR, intR, boolR, listR, tupleR, List.set_cons_zero, List.set_cons_succ, List.getElem?_cons_zero, List.getElem?_cons_succ, List.length_cons, List.length_nil, List.map_cons, List.map_nil, List.replicate_zero, List.replicate_succ, List.cons_append, List.nil_append, List.append_nil, Nat.reduceAdd, Nat.reduceSub, Nat.reduceEqDiff, Nat.reduceMul, Nat.reduceLT, Nat.reduceLeDiff, Nat.zero_add, Option.bind_some, Option.map_some, if_true, if_false, ite_true, ite_false, reduceIte, reduceCtorEq, Bool.not_true, Bool.not_false, Bool.true_and, Bool.false_and, Bool.and_true, Bool.and_false, Bool.or_true, Bool.or_false, Bool.true_or, Bool.false_or, beq_self_eq_true, bne_self_eq_false, ne_eq, not_true_eq_false, not_false_eq_true, Option.some.injEq, Prod.mk.injEq, and_self, and_true, true_and, decide_true, decide_false, Bool.false_eq_true, F_check_curve, B_check_curve, cvD, isc_cv]
theorem check_level_ok (b : Nat) (rows : List (List (Nat × Nat))) (l : Nat) (hl : l ≤ 300) (S : Sto) : F_check_level [cvD b rows, .int l] S = .ok (.sh, .non) S := by
  simp only [fnR, fnI, fin0, sSeq, sNil, sAsg, sAsgO, sPar, parE, slOf, sIf, sFor, sRet, sRetV, sRetN, sEx, sAug, augR, sAppend, sFrz, frzE, sSetFl, sDead, eC, eV, lookR, CC.e1, CC.e2, eBin, eNeg, eNot, eCmp, eChn, eAnd, eOr, eIf, aNil, aCons, pCons, rNil, rCons, eTup, eLst, eCell, eIx, oNo, oE, eSl, eRev, eAtt, eCall, eMk, eBt, eIsi, eIsc, eIndex, eComp, eLenset, tT, tNot, tAnd, tOr, tYes, gN, gNil, gCons, gT, iE, iK, iR1, iR2, iR3, iEnum, iEnumK, iZip, iZipK, itemsR, negR, revR, slR, kp_sh, kp_ow, okS, okO, Res.bind_ok, Res.bind_bad, truthR, binR, addR, subR, mulR, fdivR, modR, powR, cmpR, leR, ltR, isR, isNon, isiR, isTyp, tyIs, List.any, List.all, lenR, absR, minR, maxR, intR, boolR, listR, tupleR, List.set_cons_zero, List.set_cons_succ, List.getElem?_cons_zero, List.getElem?_cons_succ, List.length_cons, List.length_nil, List.map_cons, List.map_nil, List.replicate_zero, List.replicate_succ, List.cons_append, List.nil_append, List.append_nil, Nat.reduceAdd, Nat.reduceSub, Nat.reduceEqDiff, Nat.reduceMul, Nat.reduceLT, Nat.reduceLeDiff, Nat.zero_add, Option.bind_some, Option.map_some, if_true, if_false, ite_true, ite_false, reduceIte, reduceCtorEq, Bool.not_true, Bool.not_false, Bool.true_and, Bool.false_and, Bool.and_true, Bool.and_false, Bool.or_true, Bool.or_false, Bool.true_or, Bool.false_or, beq_self_eq_true, bne_self_eq_false, ne_eq, not_true_eq_false, not_false_eq_true, Option.some.injEq, Prod.mk.injEq, and_self, and_true, true_and, decide_true, decide_false, Bool.false_eq_true, F_check_level, B_check_level, check_curve_ok, is_number_ok (i := (l : Int)) (a := 0) (b := 300) (by omega) (by omega)]
theorem side_ok {b : Nat} (rows : List (List (Nat × Nat))) (hb : b < 100) (l : Nat) (hl : l ≤ 300) (S : Sto) : F_side [cvD b rows, .int l] S = .ok (.sh, .int ((b ^ l : Nat) : Int)) S := by
  simp only [fnR, fnI, fin0, sSeq, sNil, sAsg, sAsgO, sPar, parE, slOf, sIf, sFor, sRet, sRetV, sRetN, sEx, sAug, augR, sAppend, sFrz, frzE, sSetFl, sDead, eC, eV, lookR, CC.e1, CC.e2, eBin, eNeg, eNot, eCmp, eChn, eAnd, eOr, eIf, aNil, aCons, pCons, rNil, rCons, eTup, eLst, eCell, eIx, oNo, oE, eSl, eRev, eAtt, eCall, eMk, eBt, eIsi, eIsc, eIndex, eComp, eLenset, tT, tNot, tAnd, tOr, tYes, gN, gNil, gCons, gT, iE, iK, iR1, iR2, iR3, iEnum, iEnumK, iZip, iZipK, itemsR, negR, revR, slR, kp_sh, kp_ow, okS, okO, Res.bind_ok, Res.bind_bad, truthR, binR, addR, subR, mulR, fdivR, modR, powR, cmpR, leR, ltR, isR, isNon, isiR, isTyp, tyIs, List.any, List.all, lenR, absR, minR, maxR, intR, boolR, listR, tupleR, List.set_cons_zero, List.set_cons_succ, List.getElem?_cons_zero, List.getElem?_cons_succ, List.length_cons, List.length_nil, List.map_cons, List.map_nil, List.replicate_zero, List.replicate_succ, List.cons_append, List.nil_append, List.append_nil, Nat.reduceAdd, Nat.reduceSub, Nat.reduceEqDiff, Nat.reduceMul, Nat.reduceLT, Nat.reduceLeDiff, Nat.zero_add, Option.bind_some, Option.map_some, if_true, if_false, ite_true, ite_false, reduceIte, reduceCtorEq, Bool.not_true, Bool.not_false, Bool.true_and, Bool.false_and, Bool.and_true, Bool.and_false, Bool.or_true, Bool.or_false, Bool.true_or, Bool.false_or, beq_self_eq_true, bne_self_eq_false, ne_eq, not_true_eq_false, not_false_eq_true, Option.some.injEq, Prod.mk.injEq, and_self, and_true, true_and, decide_true, decide_false, Bool.false_eq_true, F_side, B_side, check_level_ok b rows l hl]
  simp only [fnR, fnI, fin0, sSeq, sNil, sAsg, sAsgO, sPar, parE, slOf, sIf, sFor, sRet, sRetV, sRetN, sEx, sAug, augR, sAppend, sFrz, frzE, sSetFl, sDead, eC, eV, lookR, CC.e1, CC.e2, eBin, eNeg, eNot, eCmp, eChn, eAnd, eOr, eIf, aNil, aCons, pCons, rNil, rCons, eTup, eLst, eCell, eIx, oNo, oE, eSl, eRev, eAtt, eCall, eMk, eBt, eIsi, eIsc, eIndex, eComp, eLenset, tT, tNot, tAnd, tOr, tYes, gN, gNil, gCons, gT, iE, iK, iR1, iR2, iR3, iEnum, iEnumK, iZip, iZipK, itemsR, negR, revR, slR, kp_sh, kp_ow, okS, okO, Res.bind_ok, Res.bind_bad, truthR, binR, addR, subR, mulR, fdivR, modR, powR, cmpR, leR, ltR, isR, isNon, isiR, isTyp, tyIs, List.any, List.all, lenR, absR, minR, maxR, intR, boolR, listR, tupleR, List.set_cons_zero, List.set_cons_succ, List.getElem?_cons_zero, List.getElem?_cons_succ, List.length_cons, List.length_nil, List.map_cons, List.map_nil, List.replicate_zero, List.replicate_succ, List.cons_append, List.nil_append, List.append_nil, Nat.reduceAdd, Nat.reduceSub, Nat.reduceEqDiff, Nat.reduceMul, Nat.reduceLT, Nat.reduceLeDiff, Nat.zero_add, Option.bind_some, Option.map_some, if_true, if_false, ite_true, ite_false, reduceIte, reduceCtorEq, Bool.not_true, Bool.not_false, Bool.true_and, Bool.false_and, Bool.and_true, Bool.and_false, Bool.or_true, Bool.or_false, Bool.true_or, Bool.false_or, beq_self_eq_true, bne_self_eq_false, ne_eq, not_true_eq_false, not_false_eq_true, Option.some.injEq, Prod.mk.injEq, and_self, and_true, true_and, decide_true, decide_false, Bool.false_eq_true, cvD, att_base, power_ok b l hb (by omega)]
theorem parts_ok {b : Nat} (rows : List (List (Nat × Nat))) (hb : b < 100) (S : Sto) : F_Curve_parts [cvD b rows] S = .ok (.sh, .int ((b * b : Nat) : Int)) S := by
  have hs : Small (b : Int) := small_nat (by omega)
  simp only [fnR, fnI, fin0, sSeq, sNil, sAsg, sAsgO, sPar, parE, slOf, sIf, sFor, sRet, sRetV, sRetN, sEx, sAug, augR, sAppend, sFrz, frzE, sSetFl, sDead, eC, eV, lookR, CC.e1, CC.e2, eBin, eNeg, eNot, eCmp, eChn, eAnd, eOr, eIf, aNil, aCons, pCons, rNil, rCons, eTup, eLst, eCell, eIx, oNo, oE, eSl, eRev, eAtt, eCall, eMk, eBt, eIsi, eIsc, eIndex, eComp, eLenset, tT, tNot, tAnd, tOr, tYes, gN, gNil, gCons, gT, iE, iK, iR1, iR2, iR3, iEnum, iEnumK, iZip, iZipK, itemsR, negR, revR, slR, kp_sh, kp_ow, okS, okO, Res.bind_ok, Res.bind_bad, truthR, binR, addR, subR, mulR, fdivR, modR, powR, cmpR, leR, ltR, isR, isNon, isiR, isTyp, tyIs, List.any, List.all, lenR, absR, minR, maxR, intR, boolR, listR, tupleR, List.set_cons_zero, List.set_cons_succ, List.getElem?_cons_zero, List.getElem?_cons_succ, List.length_cons, List.length_nil, List.map_cons, List.map_nil, List.replicate_zero, List.replicate_succ, List.cons_append, List.nil_append, List.append_nil, Nat.reduceAdd, Nat.reduceSub, Nat.reduceEqDiff, Nat.reduceMul, Nat.reduceLT, Nat.reduceLeDiff, Nat.zero_add, Option.bind_some, Option.map_some, if_true, if_false, ite_true, ite_false, reduceIte, reduceCtorEq, Bool.not_true, Bool.not_false, Bool.true_and, Bool.false_and, Bool.and_true, Bool.and_false, Bool.or_true, Bool.or_false, Bool.true_or, Bool.false_or, beq_self_eq_true, bne_self_eq_false, ne_eq, not_true_eq_false, not_false_eq_true, Option.some.injEq, Prod.mk.injEq, and_self, and_true, true_and, decide_true, decide_false, Bool.false_eq_true, F_Curve_parts, B_Curve_parts, cvD, att_base, hs, or_true]
  simp
theorem check_cell_ok {b : Nat} (rows : List (List (Nat × Nat))) (hb : b < 100) (l : Nat) (hl : l ≤ 300) (x y : Nat) (hx : x < b ^ l) (hy : y < b ^ l) (S : Sto) : F_check_cell [cvD b rows, .int l, .int x, .int y] S = .ok (.sh, .non) S := by
  simp only [fnR, fnI, fin0, sSeq, sNil, sAsg, sAsgO, sPar, parE, slOf, sIf, sFor, sRet, sRetV, sRetN, sEx, sAug, augR, sAppend, sFrz, frzE, sSetFl, sDead, eC, eV, lookR, CC.e1, CC.e2, eBin, eNeg, eNot, eCmp, eChn, eAnd, eOr, eIf, aNil, aCons, pCons, rNil, rCons, eTup, eLst, eCell, eIx, oNo, oE, eSl, eRev, eAtt, eCall, eMk, eBt, eIsi, eIsc, eIndex, eComp, eLenset, tT, tNot, tAnd, tOr, tYes, gN, gNil, gCons, gT, iE, iK, iR1, iR2, iR3, iEnum, iEnumK, iZip, iZipK, itemsR, negR, revR, slR, kp_sh, kp_ow, okS, okO, Res.bind_ok, Res.bind_bad, truthR, binR, addR, subR, mulR, fdivR, modR, powR, cmpR, leR, ltR, isR, isNon, isiR, isTyp, tyIs, List.any, List.all, lenR, absR, minR, maxR, intR, boolR, listR, tupleR, List.set_cons_zero, List.set_cons_succ, List.getElem?_cons_zero, List.getElem?_cons_succ, List.length_cons, List.length_nil, List.map_cons, List.map_nil, List.replicate_zero, List.replicate_succ, List.cons_append, List.nil_append, List.append_nil, Nat.reduceAdd, Nat.reduceSub, Nat.reduceEqDiff, Nat.reduceMul, Nat.reduceLT, Nat.reduceLeDiff, Nat.zero_add, Option.bind_some, Option.map_some, if_true, if_false, ite_true, ite_false, reduceIte, reduceCtorEq, Bool.not_true, Bool.not_false, Bool.true_and, Bool.false_and, Bool.and_true, Bool.and_false, Bool.or_true, Bool.or_false, Bool.true_or, Bool.false_or, beq_self_eq_true, bne_self_eq_false, ne_eq, not_true_eq_false, not_false_eq_true, Option.some.injEq, Prod.mk.injEq, and_self, and_true, true_and, decide_true, decide_false, Bool.false_eq_true, F_check_cell, B_check_cell, side_ok rows hb l hl, is_number_ok (i := (x : Int)) (a := 0) (b := ((b ^ l : Nat) : Int) - 1) (by omega) (by omega), is_number_ok (i := (y : Int)) (a := 0) (b := ((b ^ l : Nat) : Int) - 1) (by omega) (by omega)]
theorem meth_parts {b : Nat} (rows : List (List (Nat × Nat))) (hb : b < 100) (i : Nat) (ρ : Env) (S : Sto) (h : ρ[i]? = some (.sh (cvD b rows))) : eMeth c_Curve F_Curve_parts (eV false i) aNil ρ S = .ok (.sh, .int ((b * b : Nat) : Int)) S := by
  have e : F_Curve_parts [.obj c_Curve [.int b, .tup (rows.map fun r => .tup (r.map pr))]] S = _ := parts_ok rows hb S
  unfold eMeth
  simp only [fnR, fnI, fin0, sSeq, sNil, sAsg, sAsgO, sPar, parE, slOf, sIf, sFor, sRet, sRetV, sRetN, sEx, sAug, augR, sAppend, sFrz, frzE, sSetFl, sDead, eC, eV, lookR, CC.e1, CC.e2, eBin, eNeg, eNot, eCmp, eChn, eAnd, eOr, eIf, aNil, aCons, pCons, rNil, rCons, eTup, eLst, eCell, eIx, oNo, oE, eSl, eRev, eAtt, eCall, eMk, eBt, eIsi, eIsc, eIndex, eComp, eLenset, tT, tNot, tAnd, tOr, tYes, gN, gNil, gCons, gT, iE, iK, iR1, iR2, iR3, iEnum, iEnumK, iZip, iZipK, itemsR, negR, revR, slR, kp_sh, kp_ow, okS, okO, Res.bind_ok, Res.bind_bad, truthR, binR, addR, subR, mulR, fdivR, modR, powR, cmpR, leR, ltR, isR, isNon, isiR, isTyp, tyIs, List.any, List.all, lenR, absR, minR, maxR, intR, boolR, listR, tupleR, List.set_cons_zero, List.set_cons_succ, List.getElem?_cons_zero, List.getElem?_cons_succ, List.length_cons, List.length_nil, List.map_cons, List.map_nil, List.replicate_zero, List.replicate_succ, List.cons_append, List.nil_append, List.append_nil, Nat.reduceAdd, Nat.reduceSub, Nat.reduceEqDiff, Nat.reduceMul, Nat.reduceLT, Nat.reduceLeDiff, Nat.zero_add, Option.bind_some, Option.map_some, if_true, if_false, ite_true, ite_false, reduceIte, reduceCtorEq, Bool.not_true, Bool.not_false, Bool.true_and, Bool.false_and, Bool.and_true, Bool.and_false, Bool.or_true, Bool.or_false, Bool.true_or, Bool.false_or, beq_self_eq_true, bne_self_eq_false, ne_eq, not_true_eq_false, not_false_eq_true, Option.some.injEq, Prod.mk.injEq, and_self, and_true, true_and, decide_true, decide_false, Bool.false_eq_true, h, cvD, cv_if, e]
theorem check_number_ok {b : Nat} (rows : List (List (Nat × Nat))) (hb : b < 10) (l : Nat) (hl : l ≤ 300) (n : Nat) (hn : n < (b * b) ^ l) (S : Sto) : F_check_number [cvD b rows, .int l, .int n] S = .ok (.sh, .non) S := by
  have h1 : b * b < 100 := by
    have := Nat.mul_lt_mul'' hb hb
    omega
  simp only [fnR, fnI, fin0, sSeq, sNil, sAsg, sAsgO, sPar, parE, slOf, sIf, sFor, sRet, sRetV, sRetN, sEx, sAug, augR, sAppend, sFrz, frzE, sSetFl, sDead, eC, eV, lookR, CC.e1, CC.e2, eBin, eNeg, eNot, eCmp, eChn, eAnd, eOr, eIf, aNil, aCons, pCons, rNil, rCons, eTup, eLst, eCell, eIx, oNo, oE, eSl, eRev, eAtt, eCall, eMk, eBt, eIsi, eIsc, eIndex, eComp, eLenset, tT, tNot, tAnd, tOr, tYes, gN, gNil, gCons, gT, iE, iK, iR1, iR2, iR3, iEnum, iEnumK, iZip, iZipK, itemsR, negR, revR, slR, kp_sh, kp_ow, okS, okO, Res.bind_ok, Res.bind_bad, truthR, binR, addR, subR, mulR, fdivR, modR, powR, cmpR, leR, ltR, isR, isNon, isiR, isTyp, tyIs, List.any, List.all, lenR, absR, minR, maxR, intR, boolR, listR, tupleR, List.set_cons_zero, List.set_cons_succ, List.getElem?_cons_zero, List.getElem?_cons_succ, List.length_cons, List.length_nil, List.map_cons, List.map_nil, List.replicate_zero, List.replicate_succ, List.cons_append, List.nil_append, List.append_nil, Nat.reduceAdd, Nat.reduceSub, Nat.reduceEqDiff, Nat.reduceMul, Nat.reduceLT, Nat.reduceLeDiff, Nat.zero_add, Option.bind_some, Option.map_some, if_true, if_false, ite_true, ite_false, reduceIte, reduceCtorEq, Bool.not_true, Bool.not_false, Bool.true_and, Bool.false_and, Bool.and_true, Bool.and_false, Bool.or_true, Bool.or_false, Bool.true_or, Bool.false_or, beq_self_eq_true, bne_self_eq_false, ne_eq, not_true_eq_false, not_false_eq_true, Option.some.injEq, Prod.mk.injEq, and_self, and_true, true_and, decide_true, decide_false, Bool.false_eq_true, F_check_number, B_check_number, check_level_ok b rows l hl, meth_parts rows (show b < 100 by omega), power_ok (b * b) l h1 (by omega), is_number_ok (i := (n : Int)) (a := 0) (b := (((b * b) ^ l : Nat) : Int) - 1) (by omega) (by omega)]
/-! ### places -/
abbrev Rows := List (List (Nat × Nat))
def at_ (rows : Rows) (s p : Nat) : Nat × Nat := ((rows[s]?.getD [])[p]?).getD (0, 0)
theorem Cv.get {b : Nat} {rows : Rows} (c : Cv b rows) {s p : Nat} (hs : s < rows.length) (hp : p < b * b) : ∃ r, r ∈ rows ∧ rows[s]? = some r ∧ r[p]? = some (at_ rows s p) ∧ (at_ rows s p).1 < b * b ∧ (at_ rows s p).2 < rows.length := by
  have h1 : rows[s]? = some rows[s] := List.getElem?_eq_getElem hs
  have hm : rows[s] ∈ rows := List.getElem_mem hs
  have hl := c.len _ hm
  have h2 : rows[s][p]? = some rows[s][p] := List.getElem?_eq_getElem (by rw [hl]; exact hp)
  have e : at_ rows s p = rows[s][p] := by unfold at_; rw [h1]; show (rows[s][p]?).getD (0, 0) = _; rw [h2]; rfl
  have h3 := c.lt _ hm _ (List.getElem_mem (by rw [hl]; exact hp))
  exact ⟨rows[s], hm, h1, by rw [h2, e], by rw [e]; exact h3.1, by rw [e]; exact h3.2⟩
/-- rows[s][p] as the program looks it up -/
theorem row_ix {b : Nat} {rows : Rows} (c : Cv b rows) {s p : Nat} (hs : s < rows.length) (hp : p < b * b) (S : Sto) : ∃ r : List (Nat × Nat), ixR (.tup (rows.map fun r => .tup (r.map pr))) (.int (s : Nat)) S = .ok (.sh, .tup (r.map pr)) S ∧ ixR (.tup (r.map pr)) (.int (p : Nat)) S = .ok (.sh, pr (at_ rows s p)) S := by
  obtain ⟨r, _, h1, h2, _⟩ := c.get hs hp
  exact ⟨r, ix_tup (by rw [List.getElem?_map, h1]; rfl) S, ix_tup (by rw [List.getElem?_map, h2]; rfl) S⟩
theorem Cv.b10 {b : Nat} {rows : Rows} (c : Cv b rows) : b < 10 ∧ 0 < b ∧ b * b < 10 ∧ 0 < b * b := by rcases c.hb with rfl | rfl <;> decide
theorem place_ok {b : Nat} {rows : Rows} (c : Cv b rows) {s p : Nat} (hs : s < rows.length) (hp : p < b * b) (S : Sto) : F_Curve_place [cvD b rows, .int (s : Nat), .int ((at_ rows s p).1 : Nat)] S = .ok (.sh, .int (p : Nat)) S := by
  obtain ⟨r, hm, h1, h2, _⟩ := c.get hs hp
  have e1 : ixR (.tup (rows.map fun r => .tup (r.map pr))) (.int (s : Nat)) S = .ok (.sh, .tup (r.map pr)) S := ix_tup (by rw [List.getElem?_map, h1]; rfl) S
  have hl : (r.map pr).length ≤ szLine := szl _ (by rw [List.length_map, c.len r hm]; have := c.b10; omega)
  have e2 : ∀ (a b' c' : Sl), compL (cBody (eV false 3) (gT (gCons (gN 3) (gCons (gN 4) gNil))) tYes [a, b', c', .no, .no]) (r.map pr) S = .ok ((r.map pr).map fun d => match d with | .tup [x, _] => x | _ => .non) S := fun a b' c' => compL_map _ fun x hx => by
    obtain ⟨q, _, rfl⟩ := List.mem_map.mp hx
    unfold cBody pr
    simp only [fnR, fnI, fin0, sSeq, sNil, sAsg, sAsgO, sPar, parE, slOf, sIf, sFor, sRet, sRetV, sRetN, sEx, sAug, augR, sAppend, sFrz, frzE, sSetFl, sDead, eC, eV, lookR, CC.e1, CC.e2, eBin, eNeg, eNot, eCmp, eChn, eAnd, eOr, eIf, aNil, aCons, pCons, rNil, rCons, eTup, eLst, eCell, eIx, oNo, oE, eSl, eRev, eAtt, eCall, eMk, eBt, eIsi, eIsc, eIndex, eComp, eLenset, tT, tNot, tAnd, tOr, tYes, gN, gNil, gCons, gT, iE, iK, iR1, iR2, iR3, iEnum, iEnumK, iZip, iZipK, itemsR, negR, revR, slR, kp_sh, kp_ow, okS, okO, Res.bind_ok, Res.bind_bad, truthR, binR, addR, subR, mulR, fdivR, modR, powR, cmpR, leR, ltR, isR, isNon, isiR, isTyp, tyIs, List.any, List.all, lenR, absR, minR, maxR, intR, boolR, listR, tupleR, List.set_cons_zero, List.set_cons_succ, List.getElem?_cons_zero, List.getElem?_cons_succ, List.length_cons, List.length_nil, List.map_cons, List.map_nil, List.replicate_zero, List.replicate_succ, List.cons_append, List.nil_append, List.append_nil, Nat.reduceAdd, Nat.reduceSub, Nat.reduceEqDiff, Nat.reduceMul, Nat.reduceLT, Nat.reduceLeDiff, Nat.zero_add, Option.bind_some, Option.map_some, if_true, if_false, ite_true, ite_false, reduceIte, reduceCtorEq, Bool.not_true, Bool.not_false, Bool.true_and, Bool.false_and, Bool.and_true, Bool.and_false, Bool.or_true, Bool.or_false, Bool.true_or, Bool.false_or, beq_self_eq_true, bne_self_eq_false, ne_eq, not_true_eq_false, not_false_eq_true, Option.some.injEq, Prod.mk.injEq, and_self, and_true, true_and, decide_true, decide_false, Bool.false_eq_true]
  have e3 : ((r.map pr).map fun d => match d with | .tup [x, _] => x | _ => .non) = (r.map (·.1)).map nI := by
    rw [List.map_map, List.map_map]
    rfl
  simp only [fnR, fnI, fin0, sSeq, sNil, sAsg, sAsgO, sPar, parE, slOf, sIf, sFor, sRet, sRetV, sRetN, sEx, sAug, augR, sAppend, sFrz, frzE, sSetFl, sDead, eC, eV, lookR, CC.e1, CC.e2, eBin, eNeg, eNot, eCmp, eChn, eAnd, eOr, eIf, aNil, aCons, pCons, rNil, rCons, eTup, eLst, eCell, eIx, oNo, oE, eSl, eRev, eAtt, eCall, eMk, eBt, eIsi, eIsc, eIndex, eComp, eLenset, tT, tNot, tAnd, tOr, tYes, gN, gNil, gCons, gT, iE, iK, iR1, iR2, iR3, iEnum, iEnumK, iZip, iZipK, itemsR, negR, revR, slR, kp_sh, kp_ow, okS, okO, Res.bind_ok, Res.bind_bad, truthR, binR, addR, subR, mulR, fdivR, modR, powR, cmpR, leR, ltR, isR, isNon, isiR, isTyp, tyIs, List.any, List.all, lenR, absR, minR, maxR, intR, boolR, listR, tupleR, List.set_cons_zero, List.set_cons_succ, List.getElem?_cons_zero, List.getElem?_cons_succ, List.length_cons, List.length_nil, List.map_cons, List.map_nil, List.replicate_zero, List.replicate_succ, List.cons_append, List.nil_append, List.append_nil, Nat.reduceAdd, Nat.reduceSub, Nat.reduceEqDiff, Nat.reduceMul, Nat.reduceLT, Nat.reduceLeDiff, Nat.zero_add, Option.bind_some, Option.map_some, if_true, if_false, ite_true, ite_false, reduceIte, reduceCtorEq, Bool.not_true, Bool.not_false, Bool.true_and, Bool.false_and, Bool.and_true, Bool.and_false, Bool.or_true, Bool.or_false, Bool.true_or, Bool.false_or, beq_self_eq_true, bne_self_eq_false, ne_eq, not_true_eq_false, not_false_eq_true, Option.some.injEq, Prod.mk.injEq, and_self, and_true, true_and, decide_true, decide_false, Bool.false_eq_true, F_Curve_place, B_Curve_place, cvD, att_rows, e1, e2, if_pos hl, e3]
  rw [index_nats (ns := r.map (·.1)) (by rw [List.getElem?_map, h2]; rfl) (c.nd r hm) S]
  simp only [fnR, fnI, fin0, sSeq, sNil, sAsg, sAsgO, sPar, parE, slOf, sIf, sFor, sRet, sRetV, sRetN, sEx, sAug, augR, sAppend, sFrz, frzE, sSetFl, sDead, eC, eV, lookR, CC.e1, CC.e2, eBin, eNeg, eNot, eCmp, eChn, eAnd, eOr, eIf, aNil, aCons, pCons, rNil, rCons, eTup, eLst, eCell, eIx, oNo, oE, eSl, eRev, eAtt, eCall, eMk, eBt, eIsi, eIsc, eIndex, eComp, eLenset, tT, tNot, tAnd, tOr, tYes, gN, gNil, gCons, gT, iE, iK, iR1, iR2, iR3, iEnum, iEnumK, iZip, iZipK, itemsR, negR, revR, slR, kp_sh, kp_ow, okS, okO, Res.bind_ok, Res.bind_bad, truthR, binR, addR, subR, mulR, fdivR, modR, powR, cmpR, leR, ltR, isR, isNon, isiR, isTyp, tyIs, List.any, List.all, lenR, absR, minR, maxR, intR, boolR, listR, tupleR, List.set_cons_zero, List.set_cons_succ, List.getElem?_cons_zero, List.getElem?_cons_succ, List.length_cons, List.length_nil, List.map_cons, List.map_nil, List.replicate_zero, List.replicate_succ, List.cons_append, List.nil_append, List.append_nil, Nat.reduceAdd, Nat.reduceSub, Nat.reduceEqDiff, Nat.reduceMul, Nat.reduceLT, Nat.reduceLeDiff, Nat.zero_add, Option.bind_some, Option.map_some, if_true, if_false, ite_true, ite_false, reduceIte, reduceCtorEq, Bool.not_true, Bool.not_false, Bool.true_and, Bool.false_and, Bool.and_true, Bool.and_false, Bool.or_true, Bool.or_false, Bool.true_or, Bool.false_or, beq_self_eq_true, bne_self_eq_false, ne_eq, not_true_eq_false, not_false_eq_true, Option.some.injEq, Prod.mk.injEq, and_self, and_true, true_and, decide_true, decide_false, Bool.false_eq_true]
theorem meth_place {b : Nat} {rows : Rows} (c : Cv b rows) {s p : Nat} (hs : s < rows.length) (hp : p < b * b) {i j k : Nat} {ρ : Env} {S : Sto} (h : ρ[i]? = some (.sh (cvD b rows))) (h2 : ρ[j]? = some (.sh (.int (s : Nat)))) (h3 : ρ[k]? = some (.sh (.int ((at_ rows s p).1 : Nat)))) :
    eMeth c_Curve F_Curve_place (eV false i) (aCons (eV false j) (aCons (eV false k) aNil)) ρ S = .ok (.sh, .int (p : Nat)) S := by
  have e : F_Curve_place [.obj c_Curve [.int b, .tup (rows.map fun r => .tup (r.map pr))], .int (s : Nat), .int ((at_ rows s p).1 : Nat)] S = _ := place_ok c hs hp S
  unfold eMeth
  simp only [fnR, fnI, fin0, sSeq, sNil, sAsg, sAsgO, sPar, parE, slOf, sIf, sFor, sRet, sRetV, sRetN, sEx, sAug, augR, sAppend, sFrz, frzE, sSetFl, sDead, eC, eV, lookR, CC.e1, CC.e2, eBin, eNeg, eNot, eCmp, eChn, eAnd, eOr, eIf, aNil, aCons, pCons, rNil, rCons, eTup, eLst, eCell, eIx, oNo, oE, eSl, eRev, eAtt, eCall, eMk, eBt, eIsi, eIsc, eIndex, eComp, eLenset, tT, tNot, tAnd, tOr, tYes, gN, gNil, gCons, gT, iE, iK, iR1, iR2, iR3, iEnum, iEnumK, iZip, iZipK, itemsR, negR, revR, slR, kp_sh, kp_ow, okS, okO, Res.bind_ok, Res.bind_bad, truthR, binR, addR, subR, mulR, fdivR, modR, powR, cmpR, leR, ltR, isR, isNon, isiR, isTyp, tyIs, List.any, List.all, lenR, absR, minR, maxR, intR, boolR, listR, tupleR, List.set_cons_zero, List.set_cons_succ, List.getElem?_cons_zero, List.getElem?_cons_succ, List.length_cons, List.length_nil, List.map_cons, List.map_nil, List.replicate_zero, List.replicate_succ, List.cons_append, List.nil_append, List.append_nil, Nat.reduceAdd, Nat.reduceSub, Nat.reduceEqDiff, Nat.reduceMul, Nat.reduceLT, Nat.reduceLeDiff, Nat.zero_add, Option.bind_some, Option.map_some, if_true, if_false, ite_true, ite_false, reduceIte, reduceCtorEq, Bool.not_true, Bool.not_false, Bool.true_and, Bool.false_and, Bool.and_true, Bool.and_false, Bool.or_true, Bool.or_false, Bool.true_or, Bool.false_or, beq_self_eq_true, bne_self_eq_false, ne_eq, not_true_eq_false, not_false_eq_true, Option.some.injEq, Prod.mk.injEq, and_self, and_true, true_and, decide_true, decide_false, Bool.false_eq_true, h, h2, h3, cvD, cv_if, e]
/-! ### numbers, states, cells of places -/
def num (B : Nat) (ps : List Nat) : Nat := ps.foldl (fun n p => n * B + p) 0
def stp (rows : Rows) (ps : List Nat) : Nat := ps.foldl (fun s p => (at_ rows s p).2) 0
def cel (b : Nat) (rows : Rows) (z : Nat × Nat × Nat) (p : Nat) : Nat × Nat × Nat := ((at_ rows z.1 p).2, z.2.1 * b + (at_ rows z.1 p).1 % b, z.2.2 * b + (at_ rows z.1 p).1 / b)
def cels (b : Nat) (rows : Rows) (ps : List Nat) : Nat × Nat × Nat := ps.foldl (cel b rows) (0, 0, 0)
def dig (B l n : Nat) : List Nat := ((List.range l).map fun i => n / B ^ i % B).reverse
theorem places_of_ok {b : Nat} {rows : Rows} (c : Cv b rows) (l : Nat) (hl : l ≤ 300) (n : Nat) (hn : n < (b * b) ^ l) (S : Sto) : F_places_of [cvD b rows, .int l, .int n] S = .ok (.ow, .lst ((dig (b * b) l n).map nI)) S := by
  have hb := c.b10
  have hr : Rng62 (l : Int) := rng62 (by omega)
  have hB : (0 : Int) < ((b * b : Nat) : Int) := by omega
  have hD : DivOk ((b * b : Nat) : Int) := divOk_lit (by omega) (by omega)
  obtain ⟨ρ', S', h, x, rfl, rfl⟩ := forL_range (g := gN 4) (body := sSeq (sAppend 3 (eBin .mod (eV true 2) (eMeth c_Curve F_Curve_parts (eV false 0) aNil))) (sSeq (sAug 2 .fdiv (eMeth c_Curve F_Curve_parts (eV false 0) aNil)) sNil))
    (fun k ρ S' => ∃ x, ρ = [.sh (cvD b rows), .sh (.int l), .sh (.int ((n / (b * b) ^ k : Nat) : Int)), .ow (.lst (((List.range k).map fun i => n / (b * b) ^ i % (b * b)).map nI)), x] ∧ S' = S) 0 l [.sh (cvD b rows), .sh (.int l), .sh (.int n), .ow (.lst []), .no] S ⟨.no, by simp, rfl⟩ (by
    rintro j ρ S' hj ⟨x, rfl, rfl⟩
    have hz : (((List.range j).map fun i => n / (b * b) ^ i % (b * b)).map nI).length < szLine := by
      rw [List.length_map, List.length_map, List.length_range]; unfold szLine; omega
    refine ⟨_, [.sh (cvD b rows), .sh (.int l), .sh (.int ((n / (b * b) ^ (j + 1) : Nat) : Int)), .ow (.lst (((List.range (j + 1)).map fun i => n / (b * b) ^ i % (b * b)).map nI)), .sh (.int (0 + j))], S', rfl, .inl ?_, _, rfl, rfl⟩
    have hd : ((n / (b * b) ^ j : Nat) : Int) / ((b * b : Nat) : Int) = ((n / (b * b) ^ (j + 1) : Nat) : Int) := by rw [← Int.natCast_ediv, Nat.div_div_eq_div_mul, Nat.pow_succ]
    simp only [fnR, fnI, fin0, sSeq, sNil, sAsg, sAsgO, sPar, parE, slOf, sIf, sFor, sRet, sRetV, sRetN, sEx, sAug, augR, sAppend, sFrz, frzE, sSetFl, sDead, eC, eV, lookR, CC.e1, CC.e2, eBin, eNeg, eNot, eCmp, eChn, eAnd, eOr, eIf, aNil, aCons, pCons, rNil, rCons, eTup, eLst, eCell, eIx, oNo, oE, eSl, eRev, eAtt, eCall, eMk, eBt, eIsi, eIsc, eIndex, eComp, eLenset, tT, tNot, tAnd, tOr, tYes, gN, gNil, gCons, gT, iE, iK, iR1, iR2, iR3, iEnum, iEnumK, iZip, iZipK, itemsR, negR, revR, slR, kp_sh, kp_ow, okS, okO, Res.bind_ok, Res.bind_bad, truthR, binR, addR, subR, mulR, fdivR, modR, powR, cmpR, leR, ltR, isR, isNon, isiR, isTyp, tyIs, List.any, List.all, lenR, absR, minR, maxR, intR, boolR, listR, tupleR, List.set_cons_zero, List.set_cons_succ, List.getElem?_cons_zero, List.getElem?_cons_succ, List.length_cons, List.length_nil, List.map_cons, List.map_nil, List.replicate_zero, List.replicate_succ, List.cons_append, List.nil_append, List.append_nil, Nat.reduceAdd, Nat.reduceSub, Nat.reduceEqDiff, Nat.reduceMul, Nat.reduceLT, Nat.reduceLeDiff, Nat.zero_add, Option.bind_some, Option.map_some, if_true, if_false, ite_true, ite_false, reduceIte, reduceCtorEq, Bool.not_true, Bool.not_false, Bool.true_and, Bool.false_and, Bool.and_true, Bool.and_false, Bool.or_true, Bool.or_false, Bool.true_or, Bool.false_or, beq_self_eq_true, bne_self_eq_false, ne_eq, not_true_eq_false, not_false_eq_true, Option.some.injEq, Prod.mk.injEq, and_self, and_true, true_and, decide_true, decide_false, Bool.false_eq_true, meth_parts rows (show b < 100 by omega), hB, hD, if_pos hz, hd]
    simp [List.range_succ, nI])
  simp only [fnR, fnI, fin0, sSeq, sNil, sAsg, sAsgO, sPar, parE, slOf, sIf, sFor, sRet, sRetV, sRetN, sEx, sAug, augR, sAppend, sFrz, frzE, sSetFl, sDead, eC, eV, lookR, CC.e1, CC.e2, eBin, eNeg, eNot, eCmp, eChn, eAnd, eOr, eIf, aNil, aCons, pCons, rNil, rCons, eTup, eLst, eCell, eIx, oNo, oE, eSl, eRev, eAtt, eCall, eMk, eBt, eIsi, eIsc, eIndex, eComp, eLenset, tT, tNot, tAnd, tOr, tYes, gN, gNil, gCons, gT, iE, iK, iR1, iR2, iR3, iEnum, iEnumK, iZip, iZipK, itemsR, negR, revR, slR, kp_sh, kp_ow, okS, okO, Res.bind_ok, Res.bind_bad, truthR, binR, addR, subR, mulR, fdivR, modR, powR, cmpR, leR, ltR, isR, isNon, isiR, isTyp, tyIs, List.any, List.all, lenR, absR, minR, maxR, intR, boolR, listR, tupleR, List.set_cons_zero, List.set_cons_succ, List.getElem?_cons_zero, List.getElem?_cons_succ, List.length_cons, List.length_nil, List.map_cons, List.map_nil, List.replicate_zero, List.replicate_succ, List.cons_append, List.nil_append, List.append_nil, Nat.reduceAdd, Nat.reduceSub, Nat.reduceEqDiff, Nat.reduceMul, Nat.reduceLT, Nat.reduceLeDiff, Nat.zero_add, Option.bind_some, Option.map_some, if_true, if_false, ite_true, ite_false, reduceIte, reduceCtorEq, Bool.not_true, Bool.not_false, Bool.true_and, Bool.false_and, Bool.and_true, Bool.and_false, Bool.or_true, Bool.or_false, Bool.true_or, Bool.false_or, beq_self_eq_true, bne_self_eq_false, ne_eq, not_true_eq_false, not_false_eq_true, Option.some.injEq, Prod.mk.injEq, and_self, and_true, true_and, decide_true, decide_false, Bool.false_eq_true, F_places_of, B_places_of, check_number_ok rows hb.1 l hl n hn, Nat.zero_le, hr, Int.toNat_natCast, h]
  unfold dig
  rw [List.map_reverse]
theorem take_succ_of {α : Type} {l : List α} {k : Nat} {a : α} (h : l[k]? = some a) : l.take (k + 1) = l.take k ++ [a] := by rw [List.take_add_one, h]; rfl
theorem get_nI {ps : List Nat} {j : Nat} {d : D} (h : (ps.map nI)[j]? = some d) : ∃ p, ps[j]? = some p ∧ d = .int (p : Int) ∧ p ∈ ps := by
  rw [List.getElem?_map] at h
  obtain ⟨p, h1, h2⟩ := Option.map_eq_some_iff.mp h
  exact ⟨p, h1, h2.symm, List.mem_of_getElem? h1⟩
abbrev Pl (b : Nat) (ps : List Nat) : Prop := ∀ p ∈ ps, p < b * b
theorem stp_snoc (rows : Rows) (ps : List Nat) (p : Nat) : stp rows (ps ++ [p]) = (at_ rows (stp rows ps) p).2 := by unfold stp; rw [List.foldl_append]; rfl
theorem num_snoc (B : Nat) (ps : List Nat) (p : Nat) : num B (ps ++ [p]) = num B ps * B + p := by unfold num; rw [List.foldl_append]; rfl
theorem cels_snoc (b : Nat) (rows : Rows) (ps : List Nat) (p : Nat) : cels b rows (ps ++ [p]) = cel b rows (cels b rows ps) p := by unfold cels; rw [List.foldl_append]; rfl
theorem cels_st (b : Nat) (rows : Rows) (ps : List Nat) : (cels b rows ps).1 = stp rows ps := by
  have : ∀ (ps : List Nat) (z : Nat × Nat × Nat) (s : Nat), z.1 = s → (ps.foldl (cel b rows) z).1 = ps.foldl (fun s p => (at_ rows s p).2) s := by
    intro ps
    induction ps with
    | nil => intro z s h; exact h
    | cons p ps ih => intro z s h; exact ih _ _ (by show (at_ rows z.1 p).2 = _; rw [h])
  exact this ps _ _ rfl
theorem stp_lt {b : Nat} {rows : Rows} (c : Cv b rows) {ps : List Nat} (h : Pl b ps) : stp rows ps < rows.length := by
  have : ∀ (ps : List Nat) (s : Nat), Pl b ps → s < rows.length → ps.foldl (fun s p => (at_ rows s p).2) s < rows.length := by
    intro ps
    induction ps with
    | nil => intro s _ h; exact h
    | cons p ps ih =>
      intro s hp hs
      obtain ⟨r, _, _, _, _, h2⟩ := c.get hs (hp p List.mem_cons_self)
      exact ih _ (fun q hq => hp q (List.mem_cons_of_mem _ hq)) h2
  exact this ps 0 h (by have := c.n1; omega)
theorem Pl.take {b : Nat} {ps : List Nat} (h : Pl b ps) (k : Nat) : Pl b (ps.take k) := fun p hp => h p (List.mem_of_mem_take hp)
theorem state_of_ok {b : Nat} {rows : Rows} (c : Cv b rows) (ps : List Nat) (h : Pl b ps) (hl : ps.length ≤ 300) (hd : dig (b * b) ps.length (num (b * b) ps) = ps) (hn : num (b * b) ps < (b * b) ^ ps.length) (S : Sto) :
    F_state_of [cvD b rows, .int (ps.length : Nat), .int (num (b * b) ps : Nat)] S = .ok (.sh, .int (stp rows ps : Nat)) S := by
  obtain ⟨ρ', S', hf, x, rfl, rfl⟩ := forL_inv (g := gN 4) (body := sSeq (sAsg (gN 3) (eIx (eIx (eIx (eAtt flds n_rows (eV true 0)) (eV true 3)) (eV true 4)) (eC (.int 1)))) sNil)
    (fun k ρ S' => ∃ x, ρ = [.sh (cvD b rows), .sh (.int (ps.length : Nat)), .sh (.int (num (b * b) ps : Nat)), .sh (.int (stp rows (ps.take k) : Nat)), x] ∧ S' = S) (ps.map nI) [.sh (cvD b rows), .sh (.int (ps.length : Nat)), .sh (.int (num (b * b) ps : Nat)), .sh (.int 0), .no] S ⟨.no, rfl, rfl⟩ (by
    rintro j d ρ S' hj ⟨x, rfl, rfl⟩
    obtain ⟨p, hp, rfl, hm⟩ := get_nI hj
    obtain ⟨r, h1, h2⟩ := row_ix c (stp_lt c (h.take j)) (h p hm) S'
    refine ⟨_, [.sh (cvD b rows), .sh (.int (ps.length : Nat)), .sh (.int (num (b * b) ps : Nat)), .sh (.int (stp rows (ps.take (j + 1)) : Nat)), .sh (.int (p : Int))], S', rfl, .inl ?_, _, rfl, rfl⟩
    rw [take_succ_of hp, stp_snoc]
    simp only [fnR, fnI, fin0, sSeq, sNil, sAsg, sAsgO, sPar, parE, slOf, sIf, sFor, sRet, sRetV, sRetN, sEx, sAug, augR, sAppend, sFrz, frzE, sSetFl, sDead, eC, eV, lookR, CC.e1, CC.e2, eBin, eNeg, eNot, eCmp, eChn, eAnd, eOr, eIf, aNil, aCons, pCons, rNil, rCons, eTup, eLst, eCell, eIx, oNo, oE, eSl, eRev, eAtt, eCall, eMk, eBt, eIsi, eIsc, eIndex, eComp, eLenset, tT, tNot, tAnd, tOr, tYes, gN, gNil, gCons, gT, iE, iK, iR1, iR2, iR3, iEnum, iEnumK, iZip, iZipK, itemsR, negR, revR, slR, kp_sh, kp_ow, okS, okO, Res.bind_ok, Res.bind_bad, truthR, binR, addR, subR, mulR, fdivR, modR, powR, cmpR, leR, ltR, isR, isNon, isiR, isTyp, tyIs, List.any, List.all, lenR, absR, minR, maxR, intR, boolR, listR, tupleR, List.set_cons_zero, List.set_cons_succ, List.getElem?_cons_zero, List.getElem?_cons_succ, List.length_cons, List.length_nil, List.map_cons, List.map_nil, List.replicate_zero, List.replicate_succ, List.cons_append, List.nil_append, List.append_nil, Nat.reduceAdd, Nat.reduceSub, Nat.reduceEqDiff, Nat.reduceMul, Nat.reduceLT, Nat.reduceLeDiff, Nat.zero_add, Option.bind_some, Option.map_some, if_true, if_false, ite_true, ite_false, reduceIte, reduceCtorEq, Bool.not_true, Bool.not_false, Bool.true_and, Bool.false_and, Bool.and_true, Bool.and_false, Bool.or_true, Bool.or_false, Bool.true_or, Bool.false_or, beq_self_eq_true, bne_self_eq_false, ne_eq, not_true_eq_false, not_false_eq_true, Option.some.injEq, Prod.mk.injEq, and_self, and_true, true_and, decide_true, decide_false, Bool.false_eq_true, cvD, att_rows, h1, h2, pr, ix_tup1])
  rw [List.length_map, List.take_length] at hf
  simp only [fnR, fnI, fin0, sSeq, sNil, sAsg, sAsgO, sPar, parE, slOf, sIf, sFor, sRet, sRetV, sRetN, sEx, sAug, augR, sAppend, sFrz, frzE, sSetFl, sDead, eC, eV, lookR, CC.e1, CC.e2, eBin, eNeg, eNot, eCmp, eChn, eAnd, eOr, eIf, aNil, aCons, pCons, rNil, rCons, eTup, eLst, eCell, eIx, oNo, oE, eSl, eRev, eAtt, eCall, eMk, eBt, eIsi, eIsc, eIndex, eComp, eLenset, tT, tNot, tAnd, tOr, tYes, gN, gNil, gCons, gT, iE, iK, iR1, iR2, iR3, iEnum, iEnumK, iZip, iZipK, itemsR, negR, revR, slR, kp_sh, kp_ow, okS, okO, Res.bind_ok, Res.bind_bad, truthR, binR, addR, subR, mulR, fdivR, modR, powR, cmpR, leR, ltR, isR, isNon, isiR, isTyp, tyIs, List.any, List.all, lenR, absR, minR, maxR, intR, boolR, listR, tupleR, List.set_cons_zero, List.set_cons_succ, List.getElem?_cons_zero, List.getElem?_cons_succ, List.length_cons, List.length_nil, List.map_cons, List.map_nil, List.replicate_zero, List.replicate_succ, List.cons_append, List.nil_append, List.append_nil, Nat.reduceAdd, Nat.reduceSub, Nat.reduceEqDiff, Nat.reduceMul, Nat.reduceLT, Nat.reduceLeDiff, Nat.zero_add, Option.bind_some, Option.map_some, if_true, if_false, ite_true, ite_false, reduceIte, reduceCtorEq, Bool.not_true, Bool.not_false, Bool.true_and, Bool.false_and, Bool.and_true, Bool.and_false, Bool.or_true, Bool.or_false, Bool.true_or, Bool.false_or, beq_self_eq_true, bne_self_eq_false, ne_eq, not_true_eq_false, not_false_eq_true, Option.some.injEq, Prod.mk.injEq, and_self, and_true, true_and, decide_true, decide_false, Bool.false_eq_true, F_state_of, B_state_of, places_of_ok c ps.length hl _ hn, hd, hf]
theorem cell_at_ok {b : Nat} {rows : Rows} (c : Cv b rows) (ps : List Nat) (h : Pl b ps) (S : Sto) :
    F_cell_at [cvD b rows, .int 0, .lst (ps.map nI)] S = .ok (.sh, .tup [nI (cels b rows ps).2.1, nI (cels b rows ps).2.2]) S := by
  have hb := c.b10
  have hs : Small (b : Int) := small_nat (by omega)
  have hB : (0 : Int) < (b : Int) := by omega
  have hD : DivOk (b : Int) := divOk_lit (by omega) (by omega)
  obtain ⟨ρ', S', hf, x, y, rfl, rfl⟩ := forL_inv (g := gN 5) (body := sSeq (sAsg (gT (gCons (gN 6) (gCons (gN 1) (gNil)))) (eIx (eIx (eAtt flds n_rows (eV true 0)) (eV true 1)) (eV true 5)))
    (sSeq (sPar [(3, false), (4, false)] (rCons (eBin .add (eBin .mul (eV true 3) (eAtt flds n_base (eV true 0))) (eBin .mod (eV true 6) (eAtt flds n_base (eV true 0)))) (rCons (eBin .add (eBin .mul (eV true 4) (eAtt flds n_base (eV true 0))) (eBin .fdiv (eV true 6) (eAtt flds n_base (eV true 0)))) (rNil))))
    (sNil)))
    (fun k ρ S' => ∃ x y, ρ = [.sh (cvD b rows), .sh (.int (stp rows (ps.take k) : Nat)), .sh (.lst (ps.map nI)), .sh (.int ((cels b rows (ps.take k)).2.1 : Nat)), .sh (.int ((cels b rows (ps.take k)).2.2 : Nat)), x, y] ∧ S' = S) (ps.map nI) [.sh (cvD b rows), .sh (.int 0), .sh (.lst (ps.map nI)), .sh (.int 0), .sh (.int 0), .no, .no] S ⟨.no, .no, rfl, rfl⟩ (by
    rintro j d ρ S' hj ⟨x, y, rfl, rfl⟩
    obtain ⟨p, hp, rfl, hm⟩ := get_nI hj
    obtain ⟨r, h1, h2⟩ := row_ix c (stp_lt c (h.take j)) (h p hm) S'
    refine ⟨_, [.sh (cvD b rows), .sh (.int (stp rows (ps.take (j + 1)) : Nat)), .sh (.lst (ps.map nI)), .sh (.int ((cels b rows (ps.take (j + 1))).2.1 : Nat)), .sh (.int ((cels b rows (ps.take (j + 1))).2.2 : Nat)), .sh (.int (p : Int)), .sh (.int ((at_ rows (stp rows (ps.take j)) p).1 : Nat))], S', rfl, .inl ?_, _, _, rfl, rfl⟩
    rw [take_succ_of hp, stp_snoc, cels_snoc]
    simp only [fnR, fnI, fin0, sSeq, sNil, sAsg, sAsgO, sPar, parE, slOf, sIf, sFor, sRet, sRetV, sRetN, sEx, sAug, augR, sAppend, sFrz, frzE, sSetFl, sDead, eC, eV, lookR, CC.e1, CC.e2, eBin, eNeg, eNot, eCmp, eChn, eAnd, eOr, eIf, aNil, aCons, pCons, rNil, rCons, eTup, eLst, eCell, eIx, oNo, oE, eSl, eRev, eAtt, eCall, eMk, eBt, eIsi, eIsc, eIndex, eComp, eLenset, tT, tNot, tAnd, tOr, tYes, gN, gNil, gCons, gT, iE, iK, iR1, iR2, iR3, iEnum, iEnumK, iZip, iZipK, itemsR, negR, revR, slR, kp_sh, kp_ow, okS, okO, Res.bind_ok, Res.bind_bad, truthR, binR, addR, subR, mulR, fdivR, modR, powR, cmpR, leR, ltR, isR, isNon, isiR, isTyp, tyIs, List.any, List.all, lenR, absR, minR, maxR, intR, boolR, listR, tupleR, List.set_cons_zero, List.set_cons_succ, List.getElem?_cons_zero, List.getElem?_cons_succ, List.length_cons, List.length_nil, List.map_cons, List.map_nil, List.replicate_zero, List.replicate_succ, List.cons_append, List.nil_append, List.append_nil, Nat.reduceAdd, Nat.reduceSub, Nat.reduceEqDiff, Nat.reduceMul, Nat.reduceLT, Nat.reduceLeDiff, Nat.zero_add, Option.bind_some, Option.map_some, if_true, if_false, ite_true, ite_false, reduceIte, reduceCtorEq, Bool.not_true, Bool.not_false, Bool.true_and, Bool.false_and, Bool.and_true, Bool.and_false, Bool.or_true, Bool.or_false, Bool.true_or, Bool.false_or, beq_self_eq_true, bne_self_eq_false, ne_eq, not_true_eq_false, not_false_eq_true, Option.some.injEq, Prod.mk.injEq, and_self, and_true, true_and, decide_true, decide_false, Bool.false_eq_true, cvD, att_rows, att_base, h1, h2, pr, hs, hB, hD, or_true]
    simp [cel, cels_st])
  rw [List.length_map, List.take_length] at hf
  simp only [fnR, fnI, fin0, sSeq, sNil, sAsg, sAsgO, sPar, parE, slOf, sIf, sFor, sRet, sRetV, sRetN, sEx, sAug, augR, sAppend, sFrz, frzE, sSetFl, sDead, eC, eV, lookR, CC.e1, CC.e2, eBin, eNeg, eNot, eCmp, eChn, eAnd, eOr, eIf, aNil, aCons, pCons, rNil, rCons, eTup, eLst, eCell, eIx, oNo, oE, eSl, eRev, eAtt, eCall, eMk, eBt, eIsi, eIsc, eIndex, eComp, eLenset, tT, tNot, tAnd, tOr, tYes, gN, gNil, gCons, gT, iE, iK, iR1, iR2, iR3, iEnum, iEnumK, iZip, iZipK, itemsR, negR, revR, slR, kp_sh, kp_ow, okS, okO, Res.bind_ok, Res.bind_bad, truthR, binR, addR, subR, mulR, fdivR, modR, powR, cmpR, leR, ltR, isR, isNon, isiR, isTyp, tyIs, List.any, List.all, lenR, absR, minR, maxR, intR, boolR, listR, tupleR, List.set_cons_zero, List.set_cons_succ, List.getElem?_cons_zero, List.getElem?_cons_succ, List.length_cons, List.length_nil, List.map_cons, List.map_nil, List.replicate_zero, List.replicate_succ, List.cons_append, List.nil_append, List.append_nil, Nat.reduceAdd, Nat.reduceSub, Nat.reduceEqDiff, Nat.reduceMul, Nat.reduceLT, Nat.reduceLeDiff, Nat.zero_add, Option.bind_some, Option.map_some, if_true, if_false, ite_true, ite_false, reduceIte, reduceCtorEq, Bool.not_true, Bool.not_false, Bool.true_and, Bool.false_and, Bool.and_true, Bool.and_false, Bool.or_true, Bool.or_false, Bool.true_or, Bool.false_or, beq_self_eq_true, bne_self_eq_false, ne_eq, not_true_eq_false, not_false_eq_true, Option.some.injEq, Prod.mk.injEq, and_self, and_true, true_and, decide_true, decide_false, Bool.false_eq_true, F_cell_at, B_cell_at, hf, if_pos (show 2 ≤ szLine by decide)]
  rfl
theorem cell_of_ok {b : Nat} {rows : Rows} (c : Cv b rows) (ps : List Nat) (h : Pl b ps) (hl : ps.length ≤ 300) (hd : dig (b * b) ps.length (num (b * b) ps) = ps) (hn : num (b * b) ps < (b * b) ^ ps.length) (S : Sto) :
    F_cell_of [cvD b rows, .int (ps.length : Nat), .int (num (b * b) ps : Nat)] S = .ok (.sh, .tup [nI (cels b rows ps).2.1, nI (cels b rows ps).2.2]) S := by
  simp only [fnR, fnI, fin0, sSeq, sNil, sAsg, sAsgO, sPar, parE, slOf, sIf, sFor, sRet, sRetV, sRetN, sEx, sAug, augR, sAppend, sFrz, frzE, sSetFl, sDead, eC, eV, lookR, CC.e1, CC.e2, eBin, eNeg, eNot, eCmp, eChn, eAnd, eOr, eIf, aNil, aCons, pCons, rNil, rCons, eTup, eLst, eCell, eIx, oNo, oE, eSl, eRev, eAtt, eCall, eMk, eBt, eIsi, eIsc, eIndex, eComp, eLenset, tT, tNot, tAnd, tOr, tYes, gN, gNil, gCons, gT, iE, iK, iR1, iR2, iR3, iEnum, iEnumK, iZip, iZipK, itemsR, negR, revR, slR, kp_sh, kp_ow, okS, okO, Res.bind_ok, Res.bind_bad, truthR, binR, addR, subR, mulR, fdivR, modR, powR, cmpR, leR, ltR, isR, isNon, isiR, isTyp, tyIs, List.any, List.all, lenR, absR, minR, maxR, intR, boolR, listR, tupleR, List.set_cons_zero, List.set_cons_succ, List.getElem?_cons_zero, List.getElem?_cons_succ, List.length_cons, List.length_nil, List.map_cons, List.map_nil, List.replicate_zero, List.replicate_succ, List.cons_append, List.nil_append, List.append_nil, Nat.reduceAdd, Nat.reduceSub, Nat.reduceEqDiff, Nat.reduceMul, Nat.reduceLT, Nat.reduceLeDiff, Nat.zero_add, Option.bind_some, Option.map_some, if_true, if_false, ite_true, ite_false, reduceIte, reduceCtorEq, Bool.not_true, Bool.not_false, Bool.true_and, Bool.false_and, Bool.and_true, Bool.and_false, Bool.or_true, Bool.or_false, Bool.true_or, Bool.false_or, beq_self_eq_true, bne_self_eq_false, ne_eq, not_true_eq_false, not_false_eq_true, Option.some.injEq, Prod.mk.injEq, and_self, and_true, true_and, decide_true, decide_false, Bool.false_eq_true, F_cell_of, B_cell_of, places_of_ok c ps.length hl _ hn, hd, cell_at_ok c ps h]
theorem num_lt {B : Nat} (hB : 0 < B) : ∀ {ps : List Nat}, (∀ p ∈ ps, p < B) → num B ps < B ^ ps.length := by
  have : ∀ (ps : List Nat) (n k : Nat), (∀ p ∈ ps, p < B) → n < B ^ k → ps.foldl (fun n p => n * B + p) n < B ^ (k + ps.length) := by
    intro ps
    induction ps with
    | nil => intro n k _ h; exact h
    | cons p ps ih =>
      intro n k hp hn
      have := ih (n * B + p) (k + 1) (fun q hq => hp q (List.mem_cons_of_mem _ hq)) (by
        have h1 := hp p List.mem_cons_self
        have h2 : (n + 1) * B ≤ B ^ k * B := Nat.mul_le_mul_right B hn
        rw [Nat.pow_succ]
        rw [Nat.add_mul] at h2
        omega)
      rw [List.length_cons, show k + (ps.length + 1) = k + 1 + ps.length by omega]
      exact this
  intro ps h
  have := this ps 0 0 h (by simp)
  simpa [num] using this
theorem dig_num {B : Nat} (hB : 0 < B) (ps : List Nat) (h : ∀ p ∈ ps, p < B) : dig B ps.length (num B ps) = ps := by
  have key : ∀ (qs : List Nat), (∀ p ∈ qs, p < B) → dig B qs.reverse.length (num B qs.reverse) = qs.reverse := by
    intro qs
    induction qs with
    | nil => intro _; rfl
    | cons q qs ih =>
      intro hq
      have hlt := hq q List.mem_cons_self
      have ih' := ih fun p hp => hq p (List.mem_cons_of_mem _ hp)
      rw [List.reverse_cons, num_snoc, List.length_append]
      unfold dig at ih' ⊢
      rw [show qs.reverse.length + [q].length = qs.reverse.length + 1 from rfl, List.range_succ_eq_map, List.map_cons, List.map_map, List.reverse_cons]
      have h0 : (num B qs.reverse * B + q) / B ^ 0 % B = q := by
        rw [Nat.pow_zero, Nat.div_one, Nat.mul_comm, Nat.mul_add_mod, Nat.mod_eq_of_lt hlt]
      have h1 : ((fun i => (num B qs.reverse * B + q) / B ^ i % B) ∘ Nat.succ) = fun i => num B qs.reverse / B ^ i % B := by
        funext i
        show (num B qs.reverse * B + q) / B ^ (i + 1) % B = _
        rw [Nat.pow_succ, Nat.mul_comm (B ^ i) B, ← Nat.div_div_eq_div_mul, Nat.mul_comm (num B qs.reverse) B, Nat.mul_add_div hB, Nat.div_eq_of_lt hlt, Nat.add_zero]
      rw [h0, h1, ih']
  have := key ps.reverse fun p hp => h p (List.mem_reverse.mp hp)
  rwa [List.reverse_reverse] at this
/-! ### digits -/
theorem att_base' (b : Nat) (rows : Rows) (S : Sto) : attR flds n_base (cvD b rows) S = .ok (.sh, .int b) S := rfl
theorem att_rows' (b : Nat) (rows : Rows) (S : Sto) : attR flds n_rows (cvD b rows) S = .ok (.sh, .tup (rows.map fun r => .tup (r.map pr))) S := rfl
theorem part_lt {b : Nat} {rows : Rows} (c : Cv b rows) {s p : Nat} (hs : s < rows.length) (hp : p < b * b) : (at_ rows s p).1 % b < b ∧ (at_ rows s p).1 / b < b := by
  obtain ⟨r, _, _, _, h, _⟩ := c.get hs hp
  exact ⟨Nat.mod_lt _ c.b10.2.1, Nat.div_lt_of_lt_mul h⟩
theorem cels_div {b : Nat} {rows : Rows} (c : Cv b rows) (qs : List Nat) : ∀ (rs : List Nat), Pl b (qs ++ rs) → (cels b rows (qs ++ rs)).2.1 / b ^ rs.length = (cels b rows qs).2.1 ∧ (cels b rows (qs ++ rs)).2.2 / b ^ rs.length = (cels b rows qs).2.2 := by
  have key : ∀ (ts : List Nat), Pl b (qs ++ ts.reverse) → (cels b rows (qs ++ ts.reverse)).2.1 / b ^ ts.length = (cels b rows qs).2.1 ∧ (cels b rows (qs ++ ts.reverse)).2.2 / b ^ ts.length = (cels b rows qs).2.2 := by
    intro ts
    induction ts with
    | nil => intro _; simp
    | cons t ts ih =>
      intro h
      rw [List.reverse_cons, ← List.append_assoc] at h ⊢
      have h1 : Pl b (qs ++ ts.reverse) := fun p hp => h p (List.mem_append_left _ hp)
      obtain ⟨i1, i2⟩ := ih h1
      have hb := c.b10
      have hp := part_lt c (stp_lt c h1) (h t (List.mem_append_right _ (List.mem_singleton.mpr rfl)))
      rw [cels_snoc, List.length_cons, Nat.pow_succ, Nat.mul_comm (b ^ ts.length) b]
      unfold cel
      rw [cels_st]
      refine ⟨?_, ?_⟩
      · show (_ * b + _) / (b * b ^ ts.length) = _
        rw [← Nat.div_div_eq_div_mul, Nat.mul_comm _ b, Nat.mul_add_div hb.2.1, Nat.div_eq_of_lt hp.1, Nat.add_zero, i1]
      · show (_ * b + _) / (b * b ^ ts.length) = _
        rw [← Nat.div_div_eq_div_mul, Nat.mul_comm _ b, Nat.mul_add_div hb.2.1, Nat.div_eq_of_lt hp.2, Nat.add_zero, i2]
  intro rs h
  have := key rs.reverse (by rw [List.reverse_reverse]; exact h)
  rwa [List.reverse_reverse, List.length_reverse] at this
theorem cels_take {b : Nat} {rows : Rows} (c : Cv b rows) {ps : List Nat} (h : Pl b ps) (k : Nat) (hk : k ≤ ps.length) : (cels b rows ps).2.1 / b ^ (ps.length - k) = (cels b rows (ps.take k)).2.1 ∧ (cels b rows ps).2.2 / b ^ (ps.length - k) = (cels b rows (ps.take k)).2.2 := by
  have := cels_div c (ps.take k) (ps.drop k) (by rw [List.take_append_drop]; exact h)
  rwa [List.take_append_drop, List.length_drop] at this
theorem num_take {B : Nat} (hB : 0 < B) {ps : List Nat} (h : ∀ p ∈ ps, p < B) (k : Nat) (hk : k ≤ ps.length) : num B ps / B ^ (ps.length - k) = num B (ps.take k) := by
  have key : ∀ (ts qs : List Nat), (∀ p ∈ ts, p < B) → num B (qs ++ ts.reverse) / B ^ ts.length = num B qs := by
    intro ts qs
    induction ts with
    | nil => intro _; simp
    | cons t ts ih =>
      intro h
      rw [List.reverse_cons, ← List.append_assoc, num_snoc, List.length_cons, Nat.pow_succ, Nat.mul_comm (B ^ ts.length) B, ← Nat.div_div_eq_div_mul, Nat.mul_comm _ B, Nat.mul_add_div hB, Nat.div_eq_of_lt (h t List.mem_cons_self), Nat.add_zero]
      exact ih fun p hp => h p (List.mem_cons_of_mem _ hp)
  have := key (ps.drop k).reverse (ps.take k) fun p hp => h p (List.mem_of_mem_drop (List.mem_reverse.mp hp))
  rwa [List.reverse_reverse, List.take_append_drop, List.length_reverse, List.length_drop] at this
theorem cels_lt {b : Nat} {rows : Rows} (c : Cv b rows) : ∀ {ps : List Nat}, Pl b ps → (cels b rows ps).2.1 < b ^ ps.length ∧ (cels b rows ps).2.2 < b ^ ps.length := by
  intro ps h
  have := cels_div c [] ps h
  rw [List.nil_append] at this
  have hb : 0 < b ^ ps.length := Nat.pow_pos c.b10.2.1
  exact ⟨(Nat.div_eq_zero_iff_lt hb).mp this.1, (Nat.div_eq_zero_iff_lt hb).mp this.2⟩
theorem divOk_pow {b k : Nat} (hb : 0 < b) (h4 : b ≤ 16) (hk : k ≤ 1000) : DivOk ((b ^ k : Nat) : Int) := by
  refine divOk_nat (Nat.pow_pos hb) ?_
  have h1 : b ^ k ≤ 2 ^ (4 * k) := by
    rw [Nat.pow_mul]
    exact Nat.pow_le_pow_left h4 k
  have h2 : b ^ k < 2 ^ (4 * k + 1) := Nat.lt_of_le_of_lt h1 (Nat.pow_lt_pow_right (by omega) (by omega))
  have h3 : (b ^ k).log2 < 4 * k + 1 := (Nat.log2_lt (Nat.pos_iff_ne_zero.mp (Nat.pow_pos hb))).mpr h2
  omega
theorem digits_of_ok {b : Nat} {rows : Rows} (c : Cv b rows) (ps : List Nat) (h : Pl b ps) (hl : ps.length ≤ 300) (S : Sto) :
    F_digits_of [cvD b rows, .int (ps.length : Nat), .int ((cels b rows ps).2.1 : Nat), .int ((cels b rows ps).2.2 : Nat)] S = .ok (.ow, .lst (ps.map nI)) S := by
  have hb := c.b10
  have hs : Small (b : Int) := small_nat (by omega)
  have hB : (0 : Int) < (b : Int) := by omega
  have hD : DivOk (b : Int) := divOk_lit (by omega) (by omega)
  have hr : Rng62 (ps.length : Int) := rng62 (by omega)
  obtain ⟨hx, hy⟩ := cels_lt c h
  obtain ⟨ρ', S', hf, x, y, z, rfl, rfl⟩ := forL_range (g := gN 7) (body := sSeq (sAug 6 .fdiv (eAtt flds n_base (eV true 0)))
    (sSeq (sAsg (gN 8) (eBin .add (eBin .mul (eBin .mod (eBin .fdiv (eV true 3) (eV true 6)) (eAtt flds n_base (eV true 0))) (eAtt flds n_base (eV true 0))) (eBin .mod (eBin .fdiv (eV true 2) (eV true 6)) (eAtt flds n_base (eV true 0)))))
    (sSeq (sAsg (gN 9) (eMeth c_Curve F_Curve_place (eV false 0) (aCons (eV false 4) (aCons (eV false 8) (aNil)))))
    (sSeq (sAppend 5 (eV false 9))
    (sSeq (sAsg (gN 4) (eIx (eIx (eIx (eAtt flds n_rows (eV true 0)) (eV true 4)) (eV true 9)) (eC (.int 1))))
    (sNil))))))
    (fun k ρ S' => ∃ x y z, ρ = [.sh (cvD b rows), .sh (.int (ps.length : Nat)), .sh (.int ((cels b rows ps).2.1 : Nat)), .sh (.int ((cels b rows ps).2.2 : Nat)), .sh (.int (stp rows (ps.take k) : Nat)), .ow (.lst ((ps.take k).map nI)), .sh (.int ((b ^ (ps.length - k) : Nat) : Int)), x, y, z] ∧ S' = S) 0 ps.length
    [.sh (cvD b rows), .sh (.int (ps.length : Nat)), .sh (.int ((cels b rows ps).2.1 : Nat)), .sh (.int ((cels b rows ps).2.2 : Nat)), .sh (.int 0), .ow (.lst []), .sh (.int ((b ^ ps.length : Nat) : Int)), .no, .no, .no] S ⟨.no, .no, .no, rfl, rfl⟩ (by
    rintro j ρ S' hj ⟨x, y, z, rfl, rfl⟩
    have hp : ps[j]? = some ps[j] := List.getElem?_eq_getElem hj
    have hm : ps[j] < b * b := h _ (List.getElem_mem hj)
    have hst := stp_lt c (h.take j)
    obtain ⟨r, h1, h2⟩ := row_ix c hst hm S'
    have hpl := part_lt c hst hm
    have tk := cels_take c h (j + 1) hj
    rw [take_succ_of hp, cels_snoc] at tk
    have hx1 : (((cels b rows ps).2.1 : Nat) : Int) / ((b ^ (ps.length - (j + 1)) : Nat) : Int) % (b : Int) = (((at_ rows (stp rows (ps.take j)) ps[j]).1 % b : Nat) : Int) := by
      rw [← Int.natCast_ediv, tk.1, ← Int.natCast_emod]
      show (((_ * b + (at_ rows (cels b rows (ps.take j)).1 ps[j]).1 % b) % b : Nat) : Int) = _
      rw [cels_st, Nat.mul_comm _ b, Nat.mul_add_mod, Nat.mod_mod]
    have hy1 : (((cels b rows ps).2.2 : Nat) : Int) / ((b ^ (ps.length - (j + 1)) : Nat) : Int) % (b : Int) = (((at_ rows (stp rows (ps.take j)) ps[j]).1 / b : Nat) : Int) := by
      rw [← Int.natCast_ediv, tk.2, ← Int.natCast_emod]
      show (((_ * b + (at_ rows (cels b rows (ps.take j)).1 ps[j]).1 / b) % b : Nat) : Int) = _
      rw [cels_st, Nat.mul_comm _ b, Nat.mul_add_mod, Nat.mod_eq_of_lt hpl.2]
    have hpart : (((at_ rows (stp rows (ps.take j)) ps[j]).1 / b : Nat) : Int) * (b : Int) + (((at_ rows (stp rows (ps.take j)) ps[j]).1 % b : Nat) : Int) = (((at_ rows (stp rows (ps.take j)) ps[j]).1 : Nat) : Int) := by
      rw [← Int.natCast_mul, ← Int.natCast_add, Nat.div_add_mod']
    have hd : ((b ^ (ps.length - j) : Nat) : Int) / (b : Int) = ((b ^ (ps.length - (j + 1)) : Nat) : Int) := by
      rw [show ps.length - j = (ps.length - (j + 1)) + 1 by omega, Nat.pow_succ, ← Int.natCast_ediv, Nat.mul_div_cancel _ hb.2.1]
    have hDp : DivOk ((b ^ (ps.length - (j + 1)) : Nat) : Int) := divOk_pow hb.2.1 (by omega) (by omega)
    have hz : ((ps.take j).map nI).length < szLine := by rw [List.length_map, List.length_take]; unfold szLine; omega
    refine ⟨_, [.sh (cvD b rows), .sh (.int (ps.length : Nat)), .sh (.int ((cels b rows ps).2.1 : Nat)), .sh (.int ((cels b rows ps).2.2 : Nat)), .sh (.int (stp rows (ps.take (j + 1)) : Nat)), .ow (.lst ((ps.take (j + 1)).map nI)), .sh (.int ((b ^ (ps.length - (j + 1)) : Nat) : Int)), .sh (.int (0 + j)), .sh (.int ((at_ rows (stp rows (ps.take j)) ps[j]).1 : Nat)), .sh (.int (ps[j] : Nat))], S', rfl, .inl ?_, _, _, _, rfl, rfl⟩
    rw [take_succ_of hp, stp_snoc, List.map_append]
    simp only [fnR, fnI, fin0, sSeq, sNil, sAsg, sAsgO, sPar, parE, slOf, sIf, sFor, sRet, sRetV, sRetN, sEx, sAug, augR, sAppend, sFrz, frzE, sSetFl, sDead, eC, eV, lookR, CC.e1, CC.e2, eBin, eNeg, eNot, eCmp, eChn, eAnd, eOr, eIf, aNil, aCons, pCons, rNil, rCons, eTup, eLst, eCell, eIx, oNo, oE, eSl, eRev, eAtt, eCall, eMk, eBt, eIsi, eIsc, eIndex, eComp, eLenset, tT, tNot, tAnd, tOr, tYes, gN, gNil, gCons, gT, iE, iK, iR1, iR2, iR3, iEnum, iEnumK, iZip, iZipK, itemsR, negR, revR, slR, kp_sh, kp_ow, okS, okO, Res.bind_ok, Res.bind_bad, truthR, binR, addR, subR, mulR, fdivR, modR, powR, cmpR, leR, ltR, isR, isNon, isiR, isTyp, tyIs, List.any, List.all, lenR, absR, minR, maxR, intR, boolR, listR, tupleR, List.set_cons_zero, List.set_cons_succ, List.getElem?_cons_zero, List.getElem?_cons_succ, List.length_cons, List.length_nil, List.map_cons, List.map_nil, List.replicate_zero, List.replicate_succ, List.cons_append, List.nil_append, List.append_nil, Nat.reduceAdd, Nat.reduceSub, Nat.reduceEqDiff, Nat.reduceMul, Nat.reduceLT, Nat.reduceLeDiff, Nat.zero_add, Option.bind_some, Option.map_some, if_true, if_false, ite_true, ite_false, reduceIte, reduceCtorEq, Bool.not_true, Bool.not_false, Bool.true_and, Bool.false_and, Bool.and_true, Bool.and_false, Bool.or_true, Bool.or_false, Bool.true_or, Bool.false_or, beq_self_eq_true, bne_self_eq_false, ne_eq, not_true_eq_false, not_false_eq_true, Option.some.injEq, Prod.mk.injEq, and_self, and_true, true_and, decide_true, decide_false, Bool.false_eq_true, att_base', att_rows', hd, hD, hDp, hB, hs, or_true, hx1, hy1, hpart, meth_place c hst hm, h1, h2, pr, ix_tup1, if_pos hz]
    rfl)
  rw [List.take_length] at hf
  simp only [fnR, fnI, fin0, sSeq, sNil, sAsg, sAsgO, sPar, parE, slOf, sIf, sFor, sRet, sRetV, sRetN, sEx, sAug, augR, sAppend, sFrz, frzE, sSetFl, sDead, eC, eV, lookR, CC.e1, CC.e2, eBin, eNeg, eNot, eCmp, eChn, eAnd, eOr, eIf, aNil, aCons, pCons, rNil, rCons, eTup, eLst, eCell, eIx, oNo, oE, eSl, eRev, eAtt, eCall, eMk, eBt, eIsi, eIsc, eIndex, eComp, eLenset, tT, tNot, tAnd, tOr, tYes, gN, gNil, gCons, gT, iE, iK, iR1, iR2, iR3, iEnum, iEnumK, iZip, iZipK, itemsR, negR, revR, slR, kp_sh, kp_ow, okS, okO, Res.bind_ok, Res.bind_bad, truthR, binR, addR, subR, mulR, fdivR, modR, powR, cmpR, leR, ltR, isR, isNon, isiR, isTyp, tyIs, List.any, List.all, lenR, absR, minR, maxR, intR, boolR, listR, tupleR, List.set_cons_zero, List.set_cons_succ, List.getElem?_cons_zero, List.getElem?_cons_succ, List.length_cons, List.length_nil, List.map_cons, List.map_nil, List.replicate_zero, List.replicate_succ, List.cons_append, List.nil_append, List.append_nil, Nat.reduceAdd, Nat.reduceSub, Nat.reduceEqDiff, Nat.reduceMul, Nat.reduceLT, Nat.reduceLeDiff, Nat.zero_add, Option.bind_some, Option.map_some, if_true, if_false, ite_true, ite_false, reduceIte, reduceCtorEq, Bool.not_true, Bool.not_false, Bool.true_and, Bool.false_and, Bool.and_true, Bool.and_false, Bool.or_true, Bool.or_false, Bool.true_or, Bool.false_or, beq_self_eq_true, bne_self_eq_false, ne_eq, not_true_eq_false, not_false_eq_true, Option.some.injEq, Prod.mk.injEq, and_self, and_true, true_and, decide_true, decide_false, Bool.false_eq_true, F_digits_of, B_digits_of, check_cell_ok rows (show b < 100 by omega) ps.length hl _ _ hx hy, side_ok rows (show b < 100 by omega) ps.length hl, Nat.zero_le, hr, Int.toNat_natCast, hf]
theorem number_of_ok {b : Nat} {rows : Rows} (c : Cv b rows) (ps : List Nat) (h : Pl b ps) (hl : ps.length ≤ 300) (S : Sto) :
    F_number_of [cvD b rows, .int (ps.length : Nat), .int ((cels b rows ps).2.1 : Nat), .int ((cels b rows ps).2.2 : Nat)] S = .ok (.sh, .int (num (b * b) ps : Nat)) S := by
  have hb := c.b10
  have hs : Small ((b * b : Nat) : Int) := small_nat (by omega)
  obtain ⟨ρ', S', hf, x, rfl, rfl⟩ := forL_inv (g := gN 5) (body := sSeq (sAsg (gN 4) (eBin .add (eBin .mul (eV true 4) (eMeth c_Curve F_Curve_parts (eV false 0) aNil)) (eV true 5))) (sNil))
    (fun k ρ S' => ∃ x, ρ = [.sh (cvD b rows), .sh (.int (ps.length : Nat)), .sh (.int ((cels b rows ps).2.1 : Nat)), .sh (.int ((cels b rows ps).2.2 : Nat)), .sh (.int (num (b * b) (ps.take k) : Nat)), x] ∧ S' = S) (ps.map nI)
    [.sh (cvD b rows), .sh (.int (ps.length : Nat)), .sh (.int ((cels b rows ps).2.1 : Nat)), .sh (.int ((cels b rows ps).2.2 : Nat)), .sh (.int 0), .no] S ⟨.no, rfl, rfl⟩ (by
    rintro j d ρ S' hj ⟨x, rfl, rfl⟩
    obtain ⟨p, hp, rfl, hm⟩ := get_nI hj
    refine ⟨_, [.sh (cvD b rows), .sh (.int (ps.length : Nat)), .sh (.int ((cels b rows ps).2.1 : Nat)), .sh (.int ((cels b rows ps).2.2 : Nat)), .sh (.int (num (b * b) (ps.take (j + 1)) : Nat)), .sh (.int (p : Int))], S', rfl, .inl ?_, _, rfl, rfl⟩
    rw [take_succ_of hp, num_snoc]
    simp only [fnR, fnI, fin0, sSeq, sNil, sAsg, sAsgO, sPar, parE, slOf, sIf, sFor, sRet, sRetV, sRetN, sEx, sAug, augR, sAppend, sFrz, frzE, sSetFl, sDead, eC, eV, lookR, CC.e1, CC.e2, eBin, eNeg, eNot, eCmp, eChn, eAnd, eOr, eIf, aNil, aCons, pCons, rNil, rCons, eTup, eLst, eCell, eIx, oNo, oE, eSl, eRev, eAtt, eCall, eMk, eBt, eIsi, eIsc, eIndex, eComp, eLenset, tT, tNot, tAnd, tOr, tYes, gN, gNil, gCons, gT, iE, iK, iR1, iR2, iR3, iEnum, iEnumK, iZip, iZipK, itemsR, negR, revR, slR, kp_sh, kp_ow, okS, okO, Res.bind_ok, Res.bind_bad, truthR, binR, addR, subR, mulR, fdivR, modR, powR, cmpR, leR, ltR, isR, isNon, isiR, isTyp, tyIs, List.any, List.all, lenR, absR, minR, maxR, intR, boolR, listR, tupleR, List.set_cons_zero, List.set_cons_succ, List.getElem?_cons_zero, List.getElem?_cons_succ, List.length_cons, List.length_nil, List.map_cons, List.map_nil, List.replicate_zero, List.replicate_succ, List.cons_append, List.nil_append, List.append_nil, Nat.reduceAdd, Nat.reduceSub, Nat.reduceEqDiff, Nat.reduceMul, Nat.reduceLT, Nat.reduceLeDiff, Nat.zero_add, Option.bind_some, Option.map_some, if_true, if_false, ite_true, ite_false, reduceIte, reduceCtorEq, Bool.not_true, Bool.not_false, Bool.true_and, Bool.false_and, Bool.and_true, Bool.and_false, Bool.or_true, Bool.or_false, Bool.true_or, Bool.false_or, beq_self_eq_true, bne_self_eq_false, ne_eq, not_true_eq_false, not_false_eq_true, Option.some.injEq, Prod.mk.injEq, and_self, and_true, true_and, decide_true, decide_false, Bool.false_eq_true, meth_parts rows (show b < 100 by omega), hs, or_true]
    simp)
  rw [List.length_map, List.take_length] at hf
  simp only [fnR, fnI, fin0, sSeq, sNil, sAsg, sAsgO, sPar, parE, slOf, sIf, sFor, sRet, sRetV, sRetN, sEx, sAug, augR, sAppend, sFrz, frzE, sSetFl, sDead, eC, eV, lookR, CC.e1, CC.e2, eBin, eNeg, eNot, eCmp, eChn, eAnd, eOr, eIf, aNil, aCons, pCons, rNil, rCons, eTup, eLst, eCell, eIx, oNo, oE, eSl, eRev, eAtt, eCall, eMk, eBt, eIsi, eIsc, eIndex, eComp, eLenset, tT, tNot, tAnd, tOr, tYes, gN, gNil, gCons, gT, iE, iK, iR1, iR2, iR3, iEnum, iEnumK, iZip, iZipK, itemsR, negR, revR, slR, kp_sh, kp_ow, okS, okO, Res.bind_ok, Res.bind_bad, truthR, binR, addR, subR, mulR, fdivR, modR, powR, cmpR, leR, ltR, isR, isNon, isiR, isTyp, tyIs, List.any, List.all, lenR, absR, minR, maxR, intR, boolR, listR, tupleR, List.set_cons_zero, List.set_cons_succ, List.getElem?_cons_zero, List.getElem?_cons_succ, List.length_cons, List.length_nil, List.map_cons, List.map_nil, List.replicate_zero, List.replicate_succ, List.cons_append, List.nil_append, List.append_nil, Nat.reduceAdd, Nat.reduceSub, Nat.reduceEqDiff, Nat.reduceMul, Nat.reduceLT, Nat.reduceLeDiff, Nat.zero_add, Option.bind_some, Option.map_some, if_true, if_false, ite_true, ite_false, reduceIte, reduceCtorEq, Bool.not_true, Bool.not_false, Bool.true_and, Bool.false_and, Bool.and_true, Bool.and_false, Bool.or_true, Bool.or_false, Bool.true_or, Bool.false_or, beq_self_eq_true, bne_self_eq_false, ne_eq, not_true_eq_false, not_false_eq_true, Option.some.injEq, Prod.mk.injEq, and_self, and_true, true_and, decide_true, decide_false, Bool.false_eq_true, F_number_of, B_number_of, digits_of_ok c ps h hl, hf]
/-! ### draws -/
def SS (ns : List Int) (k : Nat) : Sto := [.lst [.scr ns, .int (k : Nat)]]
theorem emod_nat (z : Int) (m : Nat) (h : 0 < m) : ∃ r : Nat, z % (m : Int) = r ∧ r < m := by
  have h1 := Int.emod_nonneg z (show (m : Int) ≠ 0 by omega)
  have h2 := Int.emod_lt_of_pos z (show 0 < (m : Int) by omega)
  exact ⟨(z % m).toNat, by omega, by omega⟩
noncomputable def numTail : SF := sSeq (sAsg (gN 4) (eIf (tT (eCmp .lt (eV true 3) (eC (.int 60)))) (eBin .sub (eV true 2) (eBin .pow (eC (.int 10)) (eC (.int 18)))) (eC (.int 0))))
    (sSeq (sFor (gN 5) (iR1 (eBin .mod (eBt intR (pCons (eV true 3) (aNil))) (eC (.int 60))))
    (sSeq (sAsg (gN 4) (eBin .fdiv (eV true 4) (eC (.int 1009))))
    (sNil)))
    (sSeq (sIf (tT (eCmp .gt (eV true 4) (eC (.int 0))))
    (sSeq (sRet (eBin .mod (eBt intR (pCons (eV true 4) (aNil))) (eC (.int 1009))))
    (sNil))
    (sNil))
    (sSeq (sAsg (gN 6) (eBin .mod (eBin .add (eBin .mul (eBt intR (pCons (eBin .add (eV true 2) (eBin .mul (eC (.int 977)) (eV true 1))) (aNil))) (eC (.int 48271))) (eBin .mul (eC (.int 31)) (eBt lenR (pCons (eV true 0) (aNil))))) (eC (.int 2147483647))))
    (sSeq (sAsg (gN 6) (eBin .mod (eBin .add (eBin .mul (eV true 6) (eV true 6)) (eBin .mul (eC (.int 40503)) (eV true 1))) (eC (.int 2147483629))))
    (sSeq (sRet (eBt intR (pCons (eBin .mod (eBin .add (eBin .mul (eV true 6) (eC (.int 69621))) (eBin .fdiv (eV true 6) (eC (.int 977)))) (eC (.int 2147483587))) (aNil))))
    (sNil))))))
theorem numTail_ok (ns : List Int) (k : Nat) (cell : Int) (turn : Nat) (S : Sto) : ∃ (r : Nat) (ρ : Env), numTail [.sh (.scr ns), .sh (.int (k : Nat)), .sh (.int cell), .sh (.int (turn : Nat)), .no, .no, .no] S = .ok (.ret (.sh, .int (r : Nat)) ρ) S := by
  have d1 : DivOk (1009 : Int) := divOk_lit (n := 1009) (by decide) (by decide)
  have d2 : DivOk (977 : Int) := divOk_lit (n := 977) (by decide) (by decide)
  have s1 : Small (977 : Int) := small_nat (n := 977) (by decide)
  have s2 : Small (48271 : Int) := small_nat (n := 48271) (by decide)
  have s3 : Small (31 : Int) := small_nat (n := 31) (by decide)
  have s4 : Small (40503 : Int) := small_nat (n := 40503) (by decide)
  have s5 : Small (69621 : Int) := small_nat (n := 69621) (by decide)
  have p1 : PowOk (10 : Int) (18 : Int) := ⟨by decide, by decide, small_nat (n := 10) (by decide)⟩
  have m60 : (0 : Int) < 60 := by decide
  have m1 : (0 : Int) < 1009 := by decide
  have m2 : (0 : Int) < 2147483647 := by decide
  have m3 : (0 : Int) < 2147483629 := by decide
  have m4 : (0 : Int) < 2147483587 := by decide
  have hr : Rng62 ((turn : Int) % 60) := by unfold Rng62; omega
  have loop : ∀ z0 : Int, ∃ z a, forL (gN 5) (sSeq (sAsg (gN 4) (eBin .fdiv (eV true 4) (eC (.int 1009)))) (sNil)) (rangeD 0 ((turn : Int) % 60).toNat) [.sh (.scr ns), .sh (.int (k : Nat)), .sh (.int cell), .sh (.int (turn : Nat)), .sh (.int z0), .no, .no] S = .ok (.nx [.sh (.scr ns), .sh (.int (k : Nat)), .sh (.int cell), .sh (.int (turn : Nat)), .sh (.int z), a, .no]) S := by
    intro z0
    obtain ⟨ρ', S', h, z, a, rfl, rfl⟩ := forL_range (g := gN 5) (body := sSeq (sAsg (gN 4) (eBin .fdiv (eV true 4) (eC (.int 1009)))) (sNil)) (fun j ρ S' => ∃ z a, ρ = [.sh (.scr ns), .sh (.int (k : Nat)), .sh (.int cell), .sh (.int (turn : Nat)), .sh (.int z), a, .no] ∧ S' = S) 0 ((turn : Int) % 60).toNat _ S ⟨z0, .no, rfl, rfl⟩ (by
      rintro j ρ S' hj ⟨z, a, rfl, rfl⟩
      refine ⟨_, [.sh (.scr ns), .sh (.int (k : Nat)), .sh (.int cell), .sh (.int (turn : Nat)), .sh (.int (z / 1009)), .sh (.int (0 + j)), .no], S', rfl, .inl ?_, _, _, rfl, rfl⟩
      simp only [fnR, fnI, fin0, sSeq, sNil, sAsg, sAsgO, sPar, parE, slOf, sIf, sFor, sRet, sRetV, sRetN, sEx, sAug, augR, sAppend, sFrz, frzE, sSetFl, sDead, eC, eV, lookR, CC.e1, CC.e2, eBin, eNeg, eNot, eCmp, eChn, eAnd, eOr, eIf, aNil, aCons, pCons, rNil, rCons, eTup, eLst, eCell, eIx, oNo, oE, eSl, eRev, eAtt, eCall, eMk, eBt, eIsi, eIsc, eIndex, eComp, eLenset, tT, tNot, tAnd, tOr, tYes, gN, gNil, gCons, gT, iE, iK, iR1, iR2, iR3, iEnum, iEnumK, iZip, iZipK, itemsR, negR, revR, slR, kp_sh, kp_ow, okS, okO, Res.bind_ok, Res.bind_bad, truthR, binR, addR, subR, mulR, fdivR, modR, powR, cmpR, leR, ltR, isR, isNon, isiR, isTyp, tyIs, List.any, List.all, lenR, absR, minR, maxR, intR, boolR, listR, tupleR, List.set_cons_zero, List.set_cons_succ, List.getElem?_cons_zero, List.getElem?_cons_succ, List.length_cons, List.length_nil, List.map_cons, List.map_nil, List.replicate_zero, List.replicate_succ, List.cons_append, List.nil_append, List.append_nil, Nat.reduceAdd, Nat.reduceSub, Nat.reduceEqDiff, Nat.reduceMul, Nat.reduceLT, Nat.reduceLeDiff, Nat.zero_add, Option.bind_some, Option.map_some, if_true, if_false, ite_true, ite_false, reduceIte, reduceCtorEq, Bool.not_true, Bool.not_false, Bool.true_and, Bool.false_and, Bool.and_true, Bool.and_false, Bool.or_true, Bool.or_false, Bool.true_or, Bool.false_or, beq_self_eq_true, bne_self_eq_false, ne_eq, not_true_eq_false, not_false_eq_true, Option.some.injEq, Prod.mk.injEq, and_self, and_true, true_and, decide_true, decide_false, Bool.false_eq_true, d1])
    exact ⟨z, a, h⟩
  obtain ⟨z0, hz0⟩ : ∃ z0 : Int, eIf (tT (eCmp .lt (eV true 3) (eC (.int 60)))) (eBin .sub (eV true 2) (eBin .pow (eC (.int 10)) (eC (.int 18)))) (eC (.int 0)) [.sh (.scr ns), .sh (.int (k : Nat)), .sh (.int cell), .sh (.int (turn : Nat)), .no, .no, .no] S = .ok (.sh, .int z0) S := by
    by_cases h : (turn : Int) < 60
    · exact ⟨_, by simp only [fnR, fnI, fin0, sSeq, sNil, sAsg, sAsgO, sPar, parE, slOf, sIf, sFor, sRet, sRetV, sRetN, sEx, sAug, augR, sAppend, sFrz, frzE, sSetFl, sDead, eC, eV, lookR, CC.e1, CC.e2, eBin, eNeg, eNot, eCmp, eChn, eAnd, eOr, eIf, aNil, aCons, pCons, rNil, rCons, eTup, eLst, eCell, eIx, oNo, oE, eSl, eRev, eAtt, eCall, eMk, eBt, eIsi, eIsc, eIndex, eComp, eLenset, tT, tNot, tAnd, tOr, tYes, gN, gNil, gCons, gT, iE, iK, iR1, iR2, iR3, iEnum, iEnumK, iZip, iZipK, itemsR, negR, revR, slR, kp_sh, kp_ow, okS, okO, Res.bind_ok, Res.bind_bad, truthR, binR, addR, subR, mulR, fdivR, modR, powR, cmpR, leR, ltR, isR, isNon, isiR, isTyp, tyIs, List.any, List.all, lenR, absR, minR, maxR, intR, boolR, listR, tupleR, List.set_cons_zero, List.set_cons_succ, List.getElem?_cons_zero, List.getElem?_cons_succ, List.length_cons, List.length_nil, List.map_cons, List.map_nil, List.replicate_zero, List.replicate_succ, List.cons_append, List.nil_append, List.append_nil, Nat.reduceAdd, Nat.reduceSub, Nat.reduceEqDiff, Nat.reduceMul, Nat.reduceLT, Nat.reduceLeDiff, Nat.zero_add, Option.bind_some, Option.map_some, if_true, if_false, ite_true, ite_false, reduceIte, reduceCtorEq, Bool.not_true, Bool.not_false, Bool.true_and, Bool.false_and, Bool.and_true, Bool.and_false, Bool.or_true, Bool.or_false, Bool.true_or, Bool.false_or, beq_self_eq_true, bne_self_eq_false, ne_eq, not_true_eq_false, not_false_eq_true, Option.some.injEq, Prod.mk.injEq, and_self, and_true, true_and, decide_true, decide_false, Bool.false_eq_true, h, p1]; rfl⟩
    · exact ⟨0, by simp only [fnR, fnI, fin0, sSeq, sNil, sAsg, sAsgO, sPar, parE, slOf, sIf, sFor, sRet, sRetV, sRetN, sEx, sAug, augR, sAppend, sFrz, frzE, sSetFl, sDead, eC, eV, lookR, CC.e1, CC.e2, eBin, eNeg, eNot, eCmp, eChn, eAnd, eOr, eIf, aNil, aCons, pCons, rNil, rCons, eTup, eLst, eCell, eIx, oNo, oE, eSl, eRev, eAtt, eCall, eMk, eBt, eIsi, eIsc, eIndex, eComp, eLenset, tT, tNot, tAnd, tOr, tYes, gN, gNil, gCons, gT, iE, iK, iR1, iR2, iR3, iEnum, iEnumK, iZip, iZipK, itemsR, negR, revR, slR, kp_sh, kp_ow, okS, okO, Res.bind_ok, Res.bind_bad, truthR, binR, addR, subR, mulR, fdivR, modR, powR, cmpR, leR, ltR, isR, isNon, isiR, isTyp, tyIs, List.any, List.all, lenR, absR, minR, maxR, intR, boolR, listR, tupleR, List.set_cons_zero, List.set_cons_succ, List.getElem?_cons_zero, List.getElem?_cons_succ, List.length_cons, List.length_nil, List.map_cons, List.map_nil, List.replicate_zero, List.replicate_succ, List.cons_append, List.nil_append, List.append_nil, Nat.reduceAdd, Nat.reduceSub, Nat.reduceEqDiff, Nat.reduceMul, Nat.reduceLT, Nat.reduceLeDiff, Nat.zero_add, Option.bind_some, Option.map_some, if_true, if_false, ite_true, ite_false, reduceIte, reduceCtorEq, Bool.not_true, Bool.not_false, Bool.true_and, Bool.false_and, Bool.and_true, Bool.and_false, Bool.or_true, Bool.or_false, Bool.true_or, Bool.false_or, beq_self_eq_true, bne_self_eq_false, ne_eq, not_true_eq_false, not_false_eq_true, Option.some.injEq, Prod.mk.injEq, and_self, and_true, true_and, decide_true, decide_false, Bool.false_eq_true, h]⟩
  obtain ⟨z, a, hz⟩ := loop z0
  have hfor : ∀ (xs : List Sl), xs = [.sh (.scr ns), .sh (.int (k : Nat)), .sh (.int cell), .sh (.int (turn : Nat)), .sh (.int z0), .no, .no] → iR1 (eBin .mod (eBt intR (pCons (eV true 3) (aNil))) (eC (.int 60))) xs S = .ok (rangeD 0 ((turn : Int) % 60).toNat) S := by
    rintro _ rfl
    simp only [fnR, fnI, fin0, sSeq, sNil, sAsg, sAsgO, sPar, parE, slOf, sIf, sFor, sRet, sRetV, sRetN, sEx, sAug, augR, sAppend, sFrz, frzE, sSetFl, sDead, eC, eV, lookR, CC.e1, CC.e2, eBin, eNeg, eNot, eCmp, eChn, eAnd, eOr, eIf, aNil, aCons, pCons, rNil, rCons, eTup, eLst, eCell, eIx, oNo, oE, eSl, eRev, eAtt, eCall, eMk, eBt, eIsi, eIsc, eIndex, eComp, eLenset, tT, tNot, tAnd, tOr, tYes, gN, gNil, gCons, gT, iE, iK, iR1, iR2, iR3, iEnum, iEnumK, iZip, iZipK, itemsR, negR, revR, slR, kp_sh, kp_ow, okS, okO, Res.bind_ok, Res.bind_bad, truthR, binR, addR, subR, mulR, fdivR, modR, powR, cmpR, leR, ltR, isR, isNon, isiR, isTyp, tyIs, List.any, List.all, lenR, absR, minR, maxR, intR, boolR, listR, tupleR, List.set_cons_zero, List.set_cons_succ, List.getElem?_cons_zero, List.getElem?_cons_succ, List.length_cons, List.length_nil, List.map_cons, List.map_nil, List.replicate_zero, List.replicate_succ, List.cons_append, List.nil_append, List.append_nil, Nat.reduceAdd, Nat.reduceSub, Nat.reduceEqDiff, Nat.reduceMul, Nat.reduceLT, Nat.reduceLeDiff, Nat.zero_add, Option.bind_some, Option.map_some, if_true, if_false, ite_true, ite_false, reduceIte, reduceCtorEq, Bool.not_true, Bool.not_false, Bool.true_and, Bool.false_and, Bool.and_true, Bool.and_false, Bool.or_true, Bool.or_false, Bool.true_or, Bool.false_or, beq_self_eq_true, bne_self_eq_false, ne_eq, not_true_eq_false, not_false_eq_true, Option.some.injEq, Prod.mk.injEq, and_self, and_true, true_and, decide_true, decide_false, Bool.false_eq_true, m60, hr]
  unfold numTail
  by_cases hp : z > 0
  · obtain ⟨r, h1, h2⟩ := emod_nat z 1009 (by decide)
    have h1' : z % 1009 = (r : Int) := h1
    refine ⟨r, [.sh (.scr ns), .sh (.int (k : Nat)), .sh (.int cell), .sh (.int (turn : Nat)), .sh (.int z), a, .no], ?_⟩
    refine sx (asg_sh hz0 rfl) (sx (for_sx (hfor _ rfl) hz) (sx_ret (if_sx (k := true) (S1 := S) ?_ ?_)))
    · simp only [fnR, fnI, fin0, sSeq, sNil, sAsg, sAsgO, sPar, parE, slOf, sIf, sFor, sRet, sRetV, sRetN, sEx, sAug, augR, sAppend, sFrz, frzE, sSetFl, sDead, eC, eV, lookR, CC.e1, CC.e2, eBin, eNeg, eNot, eCmp, eChn, eAnd, eOr, eIf, aNil, aCons, pCons, rNil, rCons, eTup, eLst, eCell, eIx, oNo, oE, eSl, eRev, eAtt, eCall, eMk, eBt, eIsi, eIsc, eIndex, eComp, eLenset, tT, tNot, tAnd, tOr, tYes, gN, gNil, gCons, gT, iE, iK, iR1, iR2, iR3, iEnum, iEnumK, iZip, iZipK, itemsR, negR, revR, slR, kp_sh, kp_ow, okS, okO, Res.bind_ok, Res.bind_bad, truthR, binR, addR, subR, mulR, fdivR, modR, powR, cmpR, leR, ltR, isR, isNon, isiR, isTyp, tyIs, List.any, List.all, lenR, absR, minR, maxR, intR, boolR, listR, tupleR, List.set_cons_zero, List.set_cons_succ, List.getElem?_cons_zero, List.getElem?_cons_succ, List.length_cons, List.length_nil, List.map_cons, List.map_nil, List.replicate_zero, List.replicate_succ, List.cons_append, List.nil_append, List.append_nil, Nat.reduceAdd, Nat.reduceSub, Nat.reduceEqDiff, Nat.reduceMul, Nat.reduceLT, Nat.reduceLeDiff, Nat.zero_add, Option.bind_some, Option.map_some, if_true, if_false, ite_true, ite_false, reduceIte, reduceCtorEq, Bool.not_true, Bool.not_false, Bool.true_and, Bool.false_and, Bool.and_true, Bool.and_false, Bool.or_true, Bool.or_false, Bool.true_or, Bool.false_or, beq_self_eq_true, bne_self_eq_false, ne_eq, not_true_eq_false, not_false_eq_true, Option.some.injEq, Prod.mk.injEq, and_self, and_true, true_and, decide_true, decide_false, Bool.false_eq_true, gt_iff_lt.mp hp]
    · simp only [fnR, fnI, fin0, sSeq, sNil, sAsg, sAsgO, sPar, parE, slOf, sIf, sFor, sRet, sRetV, sRetN, sEx, sAug, augR, sAppend, sFrz, frzE, sSetFl, sDead, eC, eV, lookR, CC.e1, CC.e2, eBin, eNeg, eNot, eCmp, eChn, eAnd, eOr, eIf, aNil, aCons, pCons, rNil, rCons, eTup, eLst, eCell, eIx, oNo, oE, eSl, eRev, eAtt, eCall, eMk, eBt, eIsi, eIsc, eIndex, eComp, eLenset, tT, tNot, tAnd, tOr, tYes, gN, gNil, gCons, gT, iE, iK, iR1, iR2, iR3, iEnum, iEnumK, iZip, iZipK, itemsR, negR, revR, slR, kp_sh, kp_ow, okS, okO, Res.bind_ok, Res.bind_bad, truthR, binR, addR, subR, mulR, fdivR, modR, powR, cmpR, leR, ltR, isR, isNon, isiR, isTyp, tyIs, List.any, List.all, lenR, absR, minR, maxR, intR, boolR, listR, tupleR, List.set_cons_zero, List.set_cons_succ, List.getElem?_cons_zero, List.getElem?_cons_succ, List.length_cons, List.length_nil, List.map_cons, List.map_nil, List.replicate_zero, List.replicate_succ, List.cons_append, List.nil_append, List.append_nil, Nat.reduceAdd, Nat.reduceSub, Nat.reduceEqDiff, Nat.reduceMul, Nat.reduceLT, Nat.reduceLeDiff, Nat.zero_add, Option.bind_some, Option.map_some, if_true, if_false, ite_true, ite_false, reduceIte, reduceCtorEq, Bool.not_true, Bool.not_false, Bool.true_and, Bool.false_and, Bool.and_true, Bool.and_false, Bool.or_true, Bool.or_false, Bool.true_or, Bool.false_or, beq_self_eq_true, bne_self_eq_false, ne_eq, not_true_eq_false, not_false_eq_true, Option.some.injEq, Prod.mk.injEq, and_self, and_true, true_and, decide_true, decide_false, Bool.false_eq_true, m1, h1']
  · obtain ⟨r1, h1, l1⟩ := emod_nat ((cell + 977 * (k : Int)) * 48271 + 31 * (ns.length : Int)) 2147483647 (by decide)
    obtain ⟨r2, h2, l2⟩ := emod_nat ((r1 : Int) * (r1 : Int) + 40503 * (k : Int)) 2147483629 (by decide)
    obtain ⟨r3, h3, l3⟩ := emod_nat ((r2 : Int) * 69621 + (r2 : Int) / 977) 2147483587 (by decide)
    have h1' : ((cell + 977 * (k : Int)) * 48271 + 31 * (ns.length : Int)) % 2147483647 = (r1 : Int) := h1
    have h2' : ((r1 : Int) * (r1 : Int) + 40503 * (k : Int)) % 2147483629 = (r2 : Int) := h2
    have h3' : ((r2 : Int) * 69621 + (r2 : Int) / 977) % 2147483587 = (r3 : Int) := h3
    have sr : Small (r1 : Int) := small_nat (by omega)
    refine ⟨r3, [.sh (.scr ns), .sh (.int (k : Nat)), .sh (.int cell), .sh (.int (turn : Nat)), .sh (.int z), a, .sh (.int (r2 : Nat))], ?_⟩
    refine sx (asg_sh hz0 rfl) (sx (for_sx (hfor _ rfl) hz) (sx (ρ' := [.sh (.scr ns), .sh (.int (k : Nat)), .sh (.int cell), .sh (.int (turn : Nat)), .sh (.int z), a, .no]) (S' := S) (if_sx (k := false) (S1 := S) ?_ ?_) (sx (asg_sh (d := .int (r1 : Nat)) (S' := S) ?_ rfl) (sx (asg_sh (d := .int (r2 : Nat)) (S' := S) ?_ rfl) (sx_ret ?_)))))
    · have hp' : ¬ (0 < z) := hp
      simp only [fnR, fnI, fin0, sSeq, sNil, sAsg, sAsgO, sPar, parE, slOf, sIf, sFor, sRet, sRetV, sRetN, sEx, sAug, augR, sAppend, sFrz, frzE, sSetFl, sDead, eC, eV, lookR, CC.e1, CC.e2, eBin, eNeg, eNot, eCmp, eChn, eAnd, eOr, eIf, aNil, aCons, pCons, rNil, rCons, eTup, eLst, eCell, eIx, oNo, oE, eSl, eRev, eAtt, eCall, eMk, eBt, eIsi, eIsc, eIndex, eComp, eLenset, tT, tNot, tAnd, tOr, tYes, gN, gNil, gCons, gT, iE, iK, iR1, iR2, iR3, iEnum, iEnumK, iZip, iZipK, itemsR, negR, revR, slR, kp_sh, kp_ow, okS, okO, Res.bind_ok, Res.bind_bad, truthR, binR, addR, subR, mulR, fdivR, modR, powR, cmpR, leR, ltR, isR, isNon, isiR, isTyp, tyIs, List.any, List.all, lenR, absR, minR, maxR, intR, boolR, listR, tupleR, List.set_cons_zero, List.set_cons_succ, List.getElem?_cons_zero, List.getElem?_cons_succ, List.length_cons, List.length_nil, List.map_cons, List.map_nil, List.replicate_zero, List.replicate_succ, List.cons_append, List.nil_append, List.append_nil, Nat.reduceAdd, Nat.reduceSub, Nat.reduceEqDiff, Nat.reduceMul, Nat.reduceLT, Nat.reduceLeDiff, Nat.zero_add, Option.bind_some, Option.map_some, if_true, if_false, ite_true, ite_false, reduceIte, reduceCtorEq, Bool.not_true, Bool.not_false, Bool.true_and, Bool.false_and, Bool.and_true, Bool.and_false, Bool.or_true, Bool.or_false, Bool.true_or, Bool.false_or, beq_self_eq_true, bne_self_eq_false, ne_eq, not_true_eq_false, not_false_eq_true, Option.some.injEq, Prod.mk.injEq, and_self, and_true, true_and, decide_true, decide_false, Bool.false_eq_true, hp']
    · simp only [fnR, fnI, fin0, sSeq, sNil, sAsg, sAsgO, sPar, parE, slOf, sIf, sFor, sRet, sRetV, sRetN, sEx, sAug, augR, sAppend, sFrz, frzE, sSetFl, sDead, eC, eV, lookR, CC.e1, CC.e2, eBin, eNeg, eNot, eCmp, eChn, eAnd, eOr, eIf, aNil, aCons, pCons, rNil, rCons, eTup, eLst, eCell, eIx, oNo, oE, eSl, eRev, eAtt, eCall, eMk, eBt, eIsi, eIsc, eIndex, eComp, eLenset, tT, tNot, tAnd, tOr, tYes, gN, gNil, gCons, gT, iE, iK, iR1, iR2, iR3, iEnum, iEnumK, iZip, iZipK, itemsR, negR, revR, slR, kp_sh, kp_ow, okS, okO, Res.bind_ok, Res.bind_bad, truthR, binR, addR, subR, mulR, fdivR, modR, powR, cmpR, leR, ltR, isR, isNon, isiR, isTyp, tyIs, List.any, List.all, lenR, absR, minR, maxR, intR, boolR, listR, tupleR, List.set_cons_zero, List.set_cons_succ, List.getElem?_cons_zero, List.getElem?_cons_succ, List.length_cons, List.length_nil, List.map_cons, List.map_nil, List.replicate_zero, List.replicate_succ, List.cons_append, List.nil_append, List.append_nil, Nat.reduceAdd, Nat.reduceSub, Nat.reduceEqDiff, Nat.reduceMul, Nat.reduceLT, Nat.reduceLeDiff, Nat.zero_add, Option.bind_some, Option.map_some, if_true, if_false, ite_true, ite_false, reduceIte, reduceCtorEq, Bool.not_true, Bool.not_false, Bool.true_and, Bool.false_and, Bool.and_true, Bool.and_false, Bool.or_true, Bool.or_false, Bool.true_or, Bool.false_or, beq_self_eq_true, bne_self_eq_false, ne_eq, not_true_eq_false, not_false_eq_true, Option.some.injEq, Prod.mk.injEq, and_self, and_true, true_and, decide_true, decide_false, Bool.false_eq_true]
    · simp only [fnR, fnI, fin0, sSeq, sNil, sAsg, sAsgO, sPar, parE, slOf, sIf, sFor, sRet, sRetV, sRetN, sEx, sAug, augR, sAppend, sFrz, frzE, sSetFl, sDead, eC, eV, lookR, CC.e1, CC.e2, eBin, eNeg, eNot, eCmp, eChn, eAnd, eOr, eIf, aNil, aCons, pCons, rNil, rCons, eTup, eLst, eCell, eIx, oNo, oE, eSl, eRev, eAtt, eCall, eMk, eBt, eIsi, eIsc, eIndex, eComp, eLenset, tT, tNot, tAnd, tOr, tYes, gN, gNil, gCons, gT, iE, iK, iR1, iR2, iR3, iEnum, iEnumK, iZip, iZipK, itemsR, negR, revR, slR, kp_sh, kp_ow, okS, okO, Res.bind_ok, Res.bind_bad, truthR, binR, addR, subR, mulR, fdivR, modR, powR, cmpR, leR, ltR, isR, isNon, isiR, isTyp, tyIs, List.any, List.all, lenR, absR, minR, maxR, intR, boolR, listR, tupleR, List.set_cons_zero, List.set_cons_succ, List.getElem?_cons_zero, List.getElem?_cons_succ, List.length_cons, List.length_nil, List.map_cons, List.map_nil, List.replicate_zero, List.replicate_succ, List.cons_append, List.nil_append, List.append_nil, Nat.reduceAdd, Nat.reduceSub, Nat.reduceEqDiff, Nat.reduceMul, Nat.reduceLT, Nat.reduceLeDiff, Nat.zero_add, Option.bind_some, Option.map_some, if_true, if_false, ite_true, ite_false, reduceIte, reduceCtorEq, Bool.not_true, Bool.not_false, Bool.true_and, Bool.false_and, Bool.and_true, Bool.and_false, Bool.or_true, Bool.or_false, Bool.true_or, Bool.false_or, beq_self_eq_true, bne_self_eq_false, ne_eq, not_true_eq_false, not_false_eq_true, Option.some.injEq, Prod.mk.injEq, and_self, and_true, true_and, decide_true, decide_false, Bool.false_eq_true, s1, s2, s3, m2, true_or, or_true, h1']
    · simp only [fnR, fnI, fin0, sSeq, sNil, sAsg, sAsgO, sPar, parE, slOf, sIf, sFor, sRet, sRetV, sRetN, sEx, sAug, augR, sAppend, sFrz, frzE, sSetFl, sDead, eC, eV, lookR, CC.e1, CC.e2, eBin, eNeg, eNot, eCmp, eChn, eAnd, eOr, eIf, aNil, aCons, pCons, rNil, rCons, eTup, eLst, eCell, eIx, oNo, oE, eSl, eRev, eAtt, eCall, eMk, eBt, eIsi, eIsc, eIndex, eComp, eLenset, tT, tNot, tAnd, tOr, tYes, gN, gNil, gCons, gT, iE, iK, iR1, iR2, iR3, iEnum, iEnumK, iZip, iZipK, itemsR, negR, revR, slR, kp_sh, kp_ow, okS, okO, Res.bind_ok, Res.bind_bad, truthR, binR, addR, subR, mulR, fdivR, modR, powR, cmpR, leR, ltR, isR, isNon, isiR, isTyp, tyIs, List.any, List.all, lenR, absR, minR, maxR, intR, boolR, listR, tupleR, List.set_cons_zero, List.set_cons_succ, List.getElem?_cons_zero, List.getElem?_cons_succ, List.length_cons, List.length_nil, List.map_cons, List.map_nil, List.replicate_zero, List.replicate_succ, List.cons_append, List.nil_append, List.append_nil, Nat.reduceAdd, Nat.reduceSub, Nat.reduceEqDiff, Nat.reduceMul, Nat.reduceLT, Nat.reduceLeDiff, Nat.zero_add, Option.bind_some, Option.map_some, if_true, if_false, ite_true, ite_false, reduceIte, reduceCtorEq, Bool.not_true, Bool.not_false, Bool.true_and, Bool.false_and, Bool.and_true, Bool.and_false, Bool.or_true, Bool.or_false, Bool.true_or, Bool.false_or, beq_self_eq_true, bne_self_eq_false, ne_eq, not_true_eq_false, not_false_eq_true, Option.some.injEq, Prod.mk.injEq, and_self, and_true, true_and, decide_true, decide_false, Bool.false_eq_true, sr, s4, m3, true_or, or_true, h2']
    · simp only [fnR, fnI, fin0, sSeq, sNil, sAsg, sAsgO, sPar, parE, slOf, sIf, sFor, sRet, sRetV, sRetN, sEx, sAug, augR, sAppend, sFrz, frzE, sSetFl, sDead, eC, eV, lookR, CC.e1, CC.e2, eBin, eNeg, eNot, eCmp, eChn, eAnd, eOr, eIf, aNil, aCons, pCons, rNil, rCons, eTup, eLst, eCell, eIx, oNo, oE, eSl, eRev, eAtt, eCall, eMk, eBt, eIsi, eIsc, eIndex, eComp, eLenset, tT, tNot, tAnd, tOr, tYes, gN, gNil, gCons, gT, iE, iK, iR1, iR2, iR3, iEnum, iEnumK, iZip, iZipK, itemsR, negR, revR, slR, kp_sh, kp_ow, okS, okO, Res.bind_ok, Res.bind_bad, truthR, binR, addR, subR, mulR, fdivR, modR, powR, cmpR, leR, ltR, isR, isNon, isiR, isTyp, tyIs, List.any, List.all, lenR, absR, minR, maxR, intR, boolR, listR, tupleR, List.set_cons_zero, List.set_cons_succ, List.getElem?_cons_zero, List.getElem?_cons_succ, List.length_cons, List.length_nil, List.map_cons, List.map_nil, List.replicate_zero, List.replicate_succ, List.cons_append, List.nil_append, List.append_nil, Nat.reduceAdd, Nat.reduceSub, Nat.reduceEqDiff, Nat.reduceMul, Nat.reduceLT, Nat.reduceLeDiff, Nat.zero_add, Option.bind_some, Option.map_some, if_true, if_false, ite_true, ite_false, reduceIte, reduceCtorEq, Bool.not_true, Bool.not_false, Bool.true_and, Bool.false_and, Bool.and_true, Bool.and_false, Bool.or_true, Bool.or_false, Bool.true_or, Bool.false_or, beq_self_eq_true, bne_self_eq_false, ne_eq, not_true_eq_false, not_false_eq_true, Option.some.injEq, Prod.mk.injEq, and_self, and_true, true_and, decide_true, decide_false, Bool.false_eq_true, s5, d2, m4, true_or, or_true, h3']
theorem law_number_ok (ns : List Int) (h63 : ns.length ≤ 63) (k : Nat) (S : Sto) : ∃ r : Nat, F__law_number [.scr ns, .int (k : Nat)] S = .ok (.sh, .int (r : Nat)) S := by
  by_cases hn : ns = []
  · subst hn
    obtain ⟨r, ρ, h⟩ := numTail_ok [] k 12345 0 S
    refine ⟨r, fnR_ret rfl (ρ := ρ) (sx (ρ' := [.sh (.scr []), .sh (.int (k : Nat)), .sh (.int 12345), .sh (.int ((0 : Nat) : Int)), .no, .no, .no]) (S' := S) ?_ h) (by simp)⟩
    refine asg_sh (d := .tup [.int 12345, .int 0]) ?_ rfl
    simp only [fnR, fnI, fin0, sSeq, sNil, sAsg, sAsgO, sPar, parE, slOf, sIf, sFor, sRet, sRetV, sRetN, sEx, sAug, augR, sAppend, sFrz, frzE, sSetFl, sDead, eC, eV, lookR, CC.e1, CC.e2, eBin, eNeg, eNot, eCmp, eChn, eAnd, eOr, eIf, aNil, aCons, pCons, rNil, rCons, eTup, eLst, eCell, eIx, oNo, oE, eSl, eRev, eAtt, eCall, eMk, eBt, eIsi, eIsc, eIndex, eComp, eLenset, tT, tNot, tAnd, tOr, tYes, gN, gNil, gCons, gT, iE, iK, iR1, iR2, iR3, iEnum, iEnumK, iZip, iZipK, itemsR, negR, revR, slR, kp_sh, kp_ow, okS, okO, Res.bind_ok, Res.bind_bad, truthR, binR, addR, subR, mulR, fdivR, modR, powR, cmpR, leR, ltR, isR, isNon, isiR, isTyp, tyIs, List.any, List.all, lenR, absR, minR, maxR, intR, boolR, listR, tupleR, List.set_cons_zero, List.set_cons_succ, List.getElem?_cons_zero, List.getElem?_cons_succ, List.length_cons, List.length_nil, List.map_cons, List.map_nil, List.replicate_zero, List.replicate_succ, List.cons_append, List.nil_append, List.append_nil, Nat.reduceAdd, Nat.reduceSub, Nat.reduceEqDiff, Nat.reduceMul, Nat.reduceLT, Nat.reduceLeDiff, Nat.zero_add, Option.bind_some, Option.map_some, if_true, if_false, ite_true, ite_false, reduceIte, reduceCtorEq, Bool.not_true, Bool.not_false, Bool.true_and, Bool.false_and, Bool.and_true, Bool.and_false, Bool.or_true, Bool.or_false, Bool.true_or, Bool.false_or, beq_self_eq_true, bne_self_eq_false, ne_eq, not_true_eq_false, not_false_eq_true, Option.some.injEq, Prod.mk.injEq, and_self, and_true, true_and, decide_true, decide_false, Bool.false_eq_true, eqR, List.isEmpty_nil, Bool.bne_true, if_pos (show 2 ≤ szLine by decide), if_pos (show 0 ≤ szLine by decide)]
  · have hl : 0 < ns.length := List.length_pos_iff.mpr hn
    obtain ⟨j, hj, hj2⟩ := emod_nat (k : Int) ns.length hl
    have hget : ns[j]? = some ns[j] := List.getElem?_eq_getElem hj2
    obtain ⟨r, ρ, h⟩ := numTail_ok ns k ns[j] (k / ns.length) S
    have hm : (0 : Int) < (ns.length : Int) := by omega
    have e0 : ns.isEmpty = false := by cases ns with | nil => exact absurd rfl hn | cons => rfl
    refine ⟨r, fnR_ret rfl (ρ := ρ) (sx (ρ' := [.sh (.scr ns), .sh (.int (k : Nat)), .sh (.int ns[j]), .sh (.int ((k / ns.length : Nat) : Int)), .no, .no, .no]) (S' := S) ?_ h) (by simp)⟩
    have hdv : DivOk (ns.length : Int) := divOk_lit hl (by omega)
    refine asg_sh (d := .tup [.int ns[j], .int ((k / ns.length : Nat) : Int)]) ?_ rfl
    have ei : ixR (.scr ns) (.int (j : Int)) S = .ok (.sh, .int ns[j]) S := by
      unfold ixR
      simp only [ixN_nat hj2, Option.bind_some, hget]
      rfl
    have ed : (k : Int) / (ns.length : Int) = ((k / ns.length : Nat) : Int) := (Int.natCast_ediv _ _).symm
    simp only [fnR, fnI, fin0, sSeq, sNil, sAsg, sAsgO, sPar, parE, slOf, sIf, sFor, sRet, sRetV, sRetN, sEx, sAug, augR, sAppend, sFrz, frzE, sSetFl, sDead, eC, eV, lookR, CC.e1, CC.e2, eBin, eNeg, eNot, eCmp, eChn, eAnd, eOr, eIf, aNil, aCons, pCons, rNil, rCons, eTup, eLst, eCell, eIx, oNo, oE, eSl, eRev, eAtt, eCall, eMk, eBt, eIsi, eIsc, eIndex, eComp, eLenset, tT, tNot, tAnd, tOr, tYes, gN, gNil, gCons, gT, iE, iK, iR1, iR2, iR3, iEnum, iEnumK, iZip, iZipK, itemsR, negR, revR, slR, kp_sh, kp_ow, okS, okO, Res.bind_ok, Res.bind_bad, truthR, binR, addR, subR, mulR, fdivR, modR, powR, cmpR, leR, ltR, isR, isNon, isiR, isTyp, tyIs, List.any, List.all, lenR, absR, minR, maxR, intR, boolR, listR, tupleR, List.set_cons_zero, List.set_cons_succ, List.getElem?_cons_zero, List.getElem?_cons_succ, List.length_cons, List.length_nil, List.map_cons, List.map_nil, List.replicate_zero, List.replicate_succ, List.cons_append, List.nil_append, List.append_nil, Nat.reduceAdd, Nat.reduceSub, Nat.reduceEqDiff, Nat.reduceMul, Nat.reduceLT, Nat.reduceLeDiff, Nat.zero_add, Option.bind_some, Option.map_some, if_true, if_false, ite_true, ite_false, reduceIte, reduceCtorEq, Bool.not_true, Bool.not_false, Bool.true_and, Bool.false_and, Bool.and_true, Bool.and_false, Bool.or_true, Bool.or_false, Bool.true_or, Bool.false_or, beq_self_eq_true, bne_self_eq_false, ne_eq, not_true_eq_false, not_false_eq_true, Option.some.injEq, Prod.mk.injEq, and_self, and_true, true_and, decide_true, decide_false, Bool.false_eq_true, eqR, e0, hm, hj, ei, hdv, ed, if_pos (show 2 ≤ szLine by decide), if_pos (show 0 ≤ szLine by decide)]
    rfl
theorem take_ok (ns : List Int) (h63 : ns.length ≤ 63) (k many : Nat) (hm : 0 < many) : ∃ r : Nat, r < many ∧ F__law_take [.cel 0, .int (many : Nat)] (SS ns k) = .ok (.sh, .int (r : Nat)) (SS ns (k + 1)) := by
  obtain ⟨r0, h0⟩ := law_number_ok ns h63 (k + 1) (SS ns (k + 1))
  obtain ⟨r, h1, h2⟩ := emod_nat (r0 : Int) many hm
  have hm' : (0 : Int) < (many : Int) := by omega
  refine ⟨r, h2, fnR_ret rfl (ρ := [.sh (.cel 0), .sh (.int (many : Nat))]) (sx (ρ' := [.sh (.cel 0), .sh (.int (many : Nat))]) (S' := SS ns (k + 1)) ?_ (sx_ret ?_)) (by simp)⟩
  · unfold sAugCell SS
    simp only [fnR, fnI, fin0, sSeq, sNil, sAsg, sAsgO, sPar, parE, slOf, sIf, sFor, sRet, sRetV, sRetN, sEx, sAug, augR, sAppend, sFrz, frzE, sSetFl, sDead, eC, eV, lookR, CC.e1, CC.e2, eBin, eNeg, eNot, eCmp, eChn, eAnd, eOr, eIf, aNil, aCons, pCons, rNil, rCons, eTup, eLst, eCell, eIx, oNo, oE, eSl, eRev, eAtt, eCall, eMk, eBt, eIsi, eIsc, eIndex, eComp, eLenset, tT, tNot, tAnd, tOr, tYes, gN, gNil, gCons, gT, iE, iK, iR1, iR2, iR3, iEnum, iEnumK, iZip, iZipK, itemsR, negR, revR, slR, kp_sh, kp_ow, okS, okO, Res.bind_ok, Res.bind_bad, truthR, binR, addR, subR, mulR, fdivR, modR, powR, cmpR, leR, ltR, isR, isNon, isiR, isTyp, tyIs, List.any, List.all, lenR, absR, minR, maxR, intR, boolR, listR, tupleR, List.set_cons_zero, List.set_cons_succ, List.getElem?_cons_zero, List.getElem?_cons_succ, List.length_cons, List.length_nil, List.map_cons, List.map_nil, List.replicate_zero, List.replicate_succ, List.cons_append, List.nil_append, List.append_nil, Nat.reduceAdd, Nat.reduceSub, Nat.reduceEqDiff, Nat.reduceMul, Nat.reduceLT, Nat.reduceLeDiff, Nat.zero_add, Option.bind_some, Option.map_some, if_true, if_false, ite_true, ite_false, reduceIte, reduceCtorEq, Bool.not_true, Bool.not_false, Bool.true_and, Bool.false_and, Bool.and_true, Bool.and_false, Bool.or_true, Bool.or_false, Bool.true_or, Bool.false_or, beq_self_eq_true, bne_self_eq_false, ne_eq, not_true_eq_false, not_false_eq_true, Option.some.injEq, Prod.mk.injEq, and_self, and_true, true_and, decide_true, decide_false, Bool.false_eq_true]
    simp [augR]
  · have e1 : ixR (.cel 0) (.int 0) (SS ns (k + 1)) = .ok (.sh, .scr ns) (SS ns (k + 1)) := rfl
    have e2 : ixR (.cel 0) (.int 1) (SS ns (k + 1)) = .ok (.sh, .int ((k + 1 : Nat) : Int)) (SS ns (k + 1)) := rfl
    simp only [fnR, fnI, fin0, sSeq, sNil, sAsg, sAsgO, sPar, parE, slOf, sIf, sFor, sRet, sRetV, sRetN, sEx, sAug, augR, sAppend, sFrz, frzE, sSetFl, sDead, eC, eV, lookR, CC.e1, CC.e2, eBin, eNeg, eNot, eCmp, eChn, eAnd, eOr, eIf, aNil, aCons, pCons, rNil, rCons, eTup, eLst, eCell, eIx, oNo, oE, eSl, eRev, eAtt, eCall, eMk, eBt, eIsi, eIsc, eIndex, eComp, eLenset, tT, tNot, tAnd, tOr, tYes, gN, gNil, gCons, gT, iE, iK, iR1, iR2, iR3, iEnum, iEnumK, iZip, iZipK, itemsR, negR, revR, slR, kp_sh, kp_ow, okS, okO, Res.bind_ok, Res.bind_bad, truthR, binR, addR, subR, mulR, fdivR, modR, powR, cmpR, leR, ltR, isR, isNon, isiR, isTyp, tyIs, List.any, List.all, lenR, absR, minR, maxR, intR, boolR, listR, tupleR, List.set_cons_zero, List.set_cons_succ, List.getElem?_cons_zero, List.getElem?_cons_succ, List.length_cons, List.length_nil, List.map_cons, List.map_nil, List.replicate_zero, List.replicate_succ, List.cons_append, List.nil_append, List.append_nil, Nat.reduceAdd, Nat.reduceSub, Nat.reduceEqDiff, Nat.reduceMul, Nat.reduceLT, Nat.reduceLeDiff, Nat.zero_add, Option.bind_some, Option.map_some, if_true, if_false, ite_true, ite_false, reduceIte, reduceCtorEq, Bool.not_true, Bool.not_false, Bool.true_and, Bool.false_and, Bool.and_true, Bool.and_false, Bool.or_true, Bool.or_false, Bool.true_or, Bool.false_or, beq_self_eq_true, bne_self_eq_false, ne_eq, not_true_eq_false, not_false_eq_true, Option.some.injEq, Prod.mk.injEq, and_self, and_true, true_and, decide_true, decide_false, Bool.false_eq_true, e1, e2, h0, hm', h1]
theorem pick_ok (ns : List Int) (h63 : ns.length ≤ 63) (k : Nat) (xs : List D) (hx : 0 < xs.length) : ∃ (i : Nat) (d : D), xs[i]? = some d ∧ F__law_pick [.cel 0, .lst xs] (SS ns k) = .ok (.sh, d) (SS ns (k + 1)) := by
  obtain ⟨r, h1, h2⟩ := take_ok ns h63 k xs.length hx
  have hg : xs[r]? = some xs[r] := List.getElem?_eq_getElem h1
  refine ⟨r, xs[r], hg, ?_⟩
  simp only [fnR, fnI, fin0, sSeq, sNil, sAsg, sAsgO, sPar, parE, slOf, sIf, sFor, sRet, sRetV, sRetN, sEx, sAug, augR, sAppend, sFrz, frzE, sSetFl, sDead, eC, eV, lookR, CC.e1, CC.e2, eBin, eNeg, eNot, eCmp, eChn, eAnd, eOr, eIf, aNil, aCons, pCons, rNil, rCons, eTup, eLst, eCell, eIx, oNo, oE, eSl, eRev, eAtt, eCall, eMk, eBt, eIsi, eIsc, eIndex, eComp, eLenset, tT, tNot, tAnd, tOr, tYes, gN, gNil, gCons, gT, iE, iK, iR1, iR2, iR3, iEnum, iEnumK, iZip, iZipK, itemsR, negR, revR, slR, kp_sh, kp_ow, okS, okO, Res.bind_ok, Res.bind_bad, truthR, binR, addR, subR, mulR, fdivR, modR, powR, cmpR, leR, ltR, isR, isNon, isiR, isTyp, tyIs, List.any, List.all, lenR, absR, minR, maxR, intR, boolR, listR, tupleR, List.set_cons_zero, List.set_cons_succ, List.getElem?_cons_zero, List.getElem?_cons_succ, List.length_cons, List.length_nil, List.map_cons, List.map_nil, List.replicate_zero, List.replicate_succ, List.cons_append, List.nil_append, List.append_nil, Nat.reduceAdd, Nat.reduceSub, Nat.reduceEqDiff, Nat.reduceMul, Nat.reduceLT, Nat.reduceLeDiff, Nat.zero_add, Option.bind_some, Option.map_some, if_true, if_false, ite_true, ite_false, reduceIte, reduceCtorEq, Bool.not_true, Bool.not_false, Bool.true_and, Bool.false_and, Bool.and_true, Bool.and_false, Bool.or_true, Bool.or_false, Bool.true_or, Bool.false_or, beq_self_eq_true, bne_self_eq_false, ne_eq, not_true_eq_false, not_false_eq_true, Option.some.injEq, Prod.mk.injEq, and_self, and_true, true_and, decide_true, decide_false, Bool.false_eq_true, F__law_pick, B__law_pick, h2, ix_lst hg]
/-! ### drawn curves -/
theorem cover_le : ∀ (n : Nat) (l : List Nat), (∀ i < n, i ∈ l) → n ≤ l.length
  | 0, _, _ => Nat.zero_le _
  | n + 1, l, h => by
    have h1 : n ∈ l := h n (by omega)
    have := cover_le n (l.erase n) fun i hi => (List.mem_erase_of_ne (by omega)).mpr (h i (by omega))
    rw [List.length_erase_of_mem h1] at this
    have hp : 0 < l.length := List.length_pos_of_mem h1
    omega
def cand (B : Nat) (r : List (Nat × Nat)) : List Nat := (List.range B).filter fun i => !(r.map (·.1)).contains i
theorem cand_pos {B : Nat} {r : List (Nat × Nat)} (h : r.length < B) : 0 < (cand B r).length := by
  rcases Nat.eq_zero_or_pos (cand B r).length with q | q
  · exfalso
    have h1 : ∀ i < B, i ∈ r.map (·.1) := fun i hi => by
      by_cases hc : i ∈ r.map (·.1)
      · exact hc
      · exfalso
        have : i ∈ cand B r := List.mem_filter.mpr ⟨List.mem_range.mpr hi, by simpa using hc⟩
        rw [List.length_eq_zero_iff.mp q] at this
        cases this
    have := cover_le B _ h1
    rw [List.length_map] at this
    omega
  · exact q
theorem in_nats (neg : Bool) (i : Nat) (l : List Nat) (S : Sto) : inR neg (.int (i : Nat)) (.lst (l.map nI)) S = .ok (.bl (neg != l.contains i)) S := by
  unfold inR
  simp only [good_nI, good_nats, Bool.and_self, if_true]
  congr 3
  induction l with
  | nil => rfl
  | cons a l ih =>
    rw [List.map_cons, List.any_cons, ih, List.contains_cons]
    congr 1
    show ((a : Int) == (i : Int)) = (i == a)
    rw [Bool.eq_iff_iff, beq_iff_eq, beq_iff_eq]
    omega
def rowOk (B many : Nat) (r : List (Nat × Nat)) : Prop := (∀ p ∈ r, p.1 < B ∧ p.2 < many) ∧ (r.map (·.1)).Nodup
theorem cand_ok {b many : Nat} (hB : b * b < 100) (r : List (Nat × Nat)) (S : Sto) (x0 x2 x3 x4 x5 x7 : Sl) (hr : Rng62 ((b * b : Nat) : Int)) (hs : Small (b : Int)) (hrl : r.length ≤ 100) :
    eComp (eV false 8) (gN 8) (iR1 (eBin .mul (eV true 1) (eV true 1))) (tT (eCmp .notin (eV true 8) (eComp (eIx (eV true 9) (eC (.int 0))) (gN 9) (iE (eV true 6)) (tYes)))) [x0, .sh (.int (b : Nat)), x2, x3, x4, x5, .ow (.lst (r.map pr)), x7, .no, .no] S = .ok (.ow, .lst ((cand (b * b) r).map nI)) S := by
  have inner : ∀ x8 : Sl, compL (cBody (eIx (eV true 9) (eC (.int 0))) (gN 9) tYes [x0, .sh (.int (b : Nat)), x2, x3, x4, x5, .ow (.lst (r.map pr)), x7, x8, .no]) (r.map pr) S = .ok ((r.map (·.1)).map nI) S := fun x8 => by
    rw [compL_map (fun d => match d with | .tup [x, _] => x | _ => .non)]
    · rw [List.map_map, List.map_map]; rfl
    · intro x hx
      obtain ⟨q, _, rfl⟩ := List.mem_map.mp hx
      unfold cBody pr
      simp only [fnR, fnI, fin0, sSeq, sNil, sAsg, sAsgO, sPar, parE, slOf, sIf, sFor, sRet, sRetV, sRetN, sEx, sAug, augR, sAppend, sFrz, frzE, sSetFl, sDead, eC, eV, lookR, CC.e1, CC.e2, eBin, eNeg, eNot, eCmp, eChn, eAnd, eOr, eIf, aNil, aCons, pCons, rNil, rCons, eTup, eLst, eCell, eIx, oNo, oE, eSl, eRev, eAtt, eCall, eMk, eBt, eIsi, eIsc, eIndex, eComp, eLenset, tT, tNot, tAnd, tOr, tYes, gN, gNil, gCons, gT, iE, iK, iR1, iR2, iR3, iEnum, iEnumK, iZip, iZipK, itemsR, negR, revR, slR, kp_sh, kp_ow, okS, okO, Res.bind_ok, Res.bind_bad, truthR, binR, addR, subR, mulR, fdivR, modR, powR, cmpR, leR, ltR, isR, isNon, isiR, isTyp, tyIs, List.any, List.all, lenR, absR, minR, maxR, intR, boolR, listR, tupleR, List.set_cons_zero, List.set_cons_succ, List.getElem?_cons_zero, List.getElem?_cons_succ, List.length_cons, List.length_nil, List.map_cons, List.map_nil, List.replicate_zero, List.replicate_succ, List.cons_append, List.nil_append, List.append_nil, Nat.reduceAdd, Nat.reduceSub, Nat.reduceEqDiff, Nat.reduceMul, Nat.reduceLT, Nat.reduceLeDiff, Nat.zero_add, Option.bind_some, Option.map_some, if_true, if_false, ite_true, ite_false, reduceIte, reduceCtorEq, Bool.not_true, Bool.not_false, Bool.true_and, Bool.false_and, Bool.and_true, Bool.and_false, Bool.or_true, Bool.or_false, Bool.true_or, Bool.false_or, beq_self_eq_true, bne_self_eq_false, ne_eq, not_true_eq_false, not_false_eq_true, Option.some.injEq, Prod.mk.injEq, and_self, and_true, true_and, decide_true, decide_false, Bool.false_eq_true, ix_tup0]
  have hl : (r.map pr).length ≤ szLine := szl _ (by rw [List.length_map]; omega)
  have outer : compL (cBody (eV false 8) (gN 8) (tT (eCmp .notin (eV true 8) (eComp (eIx (eV true 9) (eC (.int 0))) (gN 9) (iE (eV true 6)) (tYes)))) [x0, .sh (.int (b : Nat)), x2, x3, x4, x5, .ow (.lst (r.map pr)), x7, .no, .no]) (rangeD 0 (b * b)) S = .ok ((cand (b * b) r).map nI) S := by
    have hh : ∀ i : Nat, cBody (eV false 8) (gN 8) (tT (eCmp .notin (eV true 8) (eComp (eIx (eV true 9) (eC (.int 0))) (gN 9) (iE (eV true 6)) (tYes)))) [x0, .sh (.int (b : Nat)), x2, x3, x4, x5, .ow (.lst (r.map pr)), x7, .no, .no] (.int (i : Nat)) S = .ok (if (!(r.map (·.1)).contains i) = true then some (nI i) else none) S := fun i => by
      unfold cBody
      simp only [fnR, fnI, fin0, sSeq, sNil, sAsg, sAsgO, sPar, parE, slOf, sIf, sFor, sRet, sRetV, sRetN, sEx, sAug, augR, sAppend, sFrz, frzE, sSetFl, sDead, eC, eV, lookR, CC.e1, CC.e2, eBin, eNeg, eNot, eCmp, eChn, eAnd, eOr, eIf, aNil, aCons, pCons, rNil, rCons, eTup, eLst, eCell, eIx, oNo, oE, eSl, eRev, eAtt, eCall, eMk, eBt, eIsi, eIsc, eIndex, eComp, eLenset, tT, tNot, tAnd, tOr, tYes, gN, gNil, gCons, gT, iE, iK, iR1, iR2, iR3, iEnum, iEnumK, iZip, iZipK, itemsR, negR, revR, slR, kp_sh, kp_ow, okS, okO, Res.bind_ok, Res.bind_bad, truthR, binR, addR, subR, mulR, fdivR, modR, powR, cmpR, leR, ltR, isR, isNon, isiR, isTyp, tyIs, List.any, List.all, lenR, absR, minR, maxR, intR, boolR, listR, tupleR, List.set_cons_zero, List.set_cons_succ, List.getElem?_cons_zero, List.getElem?_cons_succ, List.length_cons, List.length_nil, List.map_cons, List.map_nil, List.replicate_zero, List.replicate_succ, List.cons_append, List.nil_append, List.append_nil, Nat.reduceAdd, Nat.reduceSub, Nat.reduceEqDiff, Nat.reduceMul, Nat.reduceLT, Nat.reduceLeDiff, Nat.zero_add, Option.bind_some, Option.map_some, if_true, if_false, ite_true, ite_false, reduceIte, reduceCtorEq, Bool.not_true, Bool.not_false, Bool.true_and, Bool.false_and, Bool.and_true, Bool.and_false, Bool.or_true, Bool.or_false, Bool.true_or, Bool.false_or, beq_self_eq_true, bne_self_eq_false, ne_eq, not_true_eq_false, not_false_eq_true, Option.some.injEq, Prod.mk.injEq, and_self, and_true, true_and, decide_true, decide_false, Bool.false_eq_true, inner, if_pos hl, in_nats]
      cases (List.map (fun x => x.fst) r).contains i <;> rfl
    have gen : ∀ l : List Nat, compL (cBody (eV false 8) (gN 8) (tT (eCmp .notin (eV true 8) (eComp (eIx (eV true 9) (eC (.int 0))) (gN 9) (iE (eV true 6)) (tYes)))) [x0, .sh (.int (b : Nat)), x2, x3, x4, x5, .ow (.lst (r.map pr)), x7, .no, .no]) (l.map nI) S = .ok ((l.filter fun i => !(r.map (·.1)).contains i).map nI) S := by
      intro l
      induction l with
      | nil => rfl
      | cons i l ih =>
        rw [List.map_cons, compL, show nI i = .int (i : Nat) from rfl, hh i]
        simp only [Res.bind_ok, ih]
        by_cases q : (!(r.map (·.1)).contains i) = true
        · rw [List.filter_cons_of_pos (p := fun i => !(r.map (·.1)).contains i) q, if_pos q]; rfl
        · rw [List.filter_cons_of_neg (p := fun i => !(r.map (·.1)).contains i) q, if_neg q]
    have e : rangeD 0 (b * b) = (List.range (b * b)).map nI := by
      unfold rangeD nI
      simp
    rw [e, gen]
    rfl
  have hz : (rangeD 0 (b * b)).length ≤ szLine := szl _ (by rw [rangeD_len]; omega)
  have em : ((b : Nat) : Int) * ((b : Nat) : Int) = ((b * b : Nat) : Int) := by simp
  exact comp_ok (by simp only [fnR, fnI, fin0, sSeq, sNil, sAsg, sAsgO, sPar, parE, slOf, sIf, sFor, sRet, sRetV, sRetN, sEx, sAug, augR, sAppend, sFrz, frzE, sSetFl, sDead, eC, eV, lookR, CC.e1, CC.e2, eBin, eNeg, eNot, eCmp, eChn, eAnd, eOr, eIf, aNil, aCons, pCons, rNil, rCons, eTup, eLst, eCell, eIx, oNo, oE, eSl, eRev, eAtt, eCall, eMk, eBt, eIsi, eIsc, eIndex, eComp, eLenset, tT, tNot, tAnd, tOr, tYes, gN, gNil, gCons, gT, iE, iK, iR1, iR2, iR3, iEnum, iEnumK, iZip, iZipK, itemsR, negR, revR, slR, kp_sh, kp_ow, okS, okO, Res.bind_ok, Res.bind_bad, truthR, binR, addR, subR, mulR, fdivR, modR, powR, cmpR, leR, ltR, isR, isNon, isiR, isTyp, tyIs, List.any, List.all, lenR, absR, minR, maxR, intR, boolR, listR, tupleR, List.set_cons_zero, List.set_cons_succ, List.getElem?_cons_zero, List.getElem?_cons_succ, List.length_cons, List.length_nil, List.map_cons, List.map_nil, List.replicate_zero, List.replicate_succ, List.cons_append, List.nil_append, List.append_nil, Nat.reduceAdd, Nat.reduceSub, Nat.reduceEqDiff, Nat.reduceMul, Nat.reduceLT, Nat.reduceLeDiff, Nat.zero_add, Option.bind_some, Option.map_some, if_true, if_false, ite_true, ite_false, reduceIte, reduceCtorEq, Bool.not_true, Bool.not_false, Bool.true_and, Bool.false_and, Bool.and_true, Bool.and_false, Bool.or_true, Bool.or_false, Bool.true_or, Bool.false_or, beq_self_eq_true, bne_self_eq_false, ne_eq, not_true_eq_false, not_false_eq_true, Option.some.injEq, Prod.mk.injEq, and_self, and_true, true_and, decide_true, decide_false, Bool.false_eq_true, hs, or_true, em, hr, Int.toNat_natCast]) outer hz
theorem rows_ok (ns : List Int) (h63 : ns.length ≤ 63) (k b most : Nat) (hb : b = 2 ∨ b = 3) (hm : 0 < most) (hm2 : most ≤ 16) :
    ∃ (rows : Rows) (k' : Nat), Cv b rows ∧ F__law_rows [.cel 0, .int (b : Nat), .int (most : Nat)] (SS ns k) = .ok (.ow, .lst (rows.map fun r => .lst (r.map pr))) (SS ns k') := by
  have hb9 : b * b < 100 ∧ 0 < b * b ∧ b < 10 := by rcases hb with rfl | rfl <;> decide
  obtain ⟨m0, hm0, hk0⟩ := take_ok ns h63 k most hm
  have hs : Small (b : Int) := small_nat (by omega)
  have hrB : Rng62 ((b * b : Nat) : Int) := rng62 (by omega)
  have hrM : Rng62 ((1 + m0 : Nat) : Int) := rng62 (by omega)
  have em : ((b : Nat) : Int) * ((b : Nat) : Int) = ((b * b : Nat) : Int) := by simp
  have inner : ∀ (x0 x2 x4 x5 x7 : Sl) (k : Nat), x0 = .sh (.cel 0) → ∃ (r : List (Nat × Nat)) (k' : Nat) (y : Sl), r.length = b * b ∧ rowOk (b * b) (1 + m0) r ∧
      forL (gN 7) (sSeq (sAppend 6 (eTup (aCons (eCall F__law_pick (aCons (eV false 0) (aCons (eComp (eV false 8) (gN 8) (iR1 (eBin .mul (eV true 1) (eV true 1))) (tT (eCmp .notin (eV true 8) (eComp (eIx (eV true 9) (eC (.int 0))) (gN 9) (iE (eV true 6)) (tYes))))) (aNil)))) (aCons (eCall F__law_take (aCons (eV false 0) (aCons (eV false 3) (aNil)))) (aNil))))) (sNil)) (rangeD 0 (b * b)) [x0, .sh (.int (b : Nat)), x2, .sh (.int ((1 + m0 : Nat) : Int)), x4, x5, .ow (.lst []), x7, .no, .no] (SS ns k) =
        .ok (.nx [x0, .sh (.int (b : Nat)), x2, .sh (.int ((1 + m0 : Nat) : Int)), x4, x5, .ow (.lst (r.map pr)), y, .no, .no]) (SS ns k') := by
    rintro x0 x2 x4 x5 x7 k rfl
    obtain ⟨ρ', S', h, r, y, k', hrl, hro, rfl, rfl⟩ := forL_range (g := gN 7) (body := sSeq (sAppend 6 (eTup (aCons (eCall F__law_pick (aCons (eV false 0) (aCons (eComp (eV false 8) (gN 8) (iR1 (eBin .mul (eV true 1) (eV true 1))) (tT (eCmp .notin (eV true 8) (eComp (eIx (eV true 9) (eC (.int 0))) (gN 9) (iE (eV true 6)) (tYes))))) (aNil)))) (aCons (eCall F__law_take (aCons (eV false 0) (aCons (eV false 3) (aNil)))) (aNil))))) (sNil))
      (fun j ρ S => ∃ (r : List (Nat × Nat)) (y : Sl) (k' : Nat), r.length = j ∧ rowOk (b * b) (1 + m0) r ∧ ρ = [.sh (.cel 0), .sh (.int (b : Nat)), x2, .sh (.int ((1 + m0 : Nat) : Int)), x4, x5, .ow (.lst (r.map pr)), y, .no, .no] ∧ S = SS ns k') 0 (b * b) [.sh (.cel 0), .sh (.int (b : Nat)), x2, .sh (.int ((1 + m0 : Nat) : Int)), x4, x5, .ow (.lst []), x7, .no, .no] (SS ns k) ⟨[], x7, k, rfl, ⟨by simp, by simp⟩, rfl, rfl⟩ (by
      rintro j ρ S hj ⟨r, y, k', hrl, hro, rfl, rfl⟩
      have hc := cand_ok (many := 1 + m0) hb9.1 r (SS ns k') (.sh (.cel 0)) x2 (.sh (.int ((1 + m0 : Nat) : Int))) x4 x5 (.sh (.int (0 + (j : Int)))) hrB hs (by omega)
      obtain ⟨i, d, hd, hpick⟩ := pick_ok ns h63 k' ((cand (b * b) r).map nI) (by rw [List.length_map]; exact cand_pos (by omega))
      rw [List.getElem?_map] at hd
      obtain ⟨p, hp, rfl⟩ := Option.map_eq_some_iff.mp hd
      obtain ⟨g, hg, htake⟩ := take_ok ns h63 (k' + 1) (1 + m0) (by omega)
      have hpm := List.mem_filter.mp (List.mem_of_getElem? hp)
      have hz : (r.map pr).length < szLine := by rw [List.length_map]; unfold szLine; omega
      refine ⟨[.sh (.cel 0), .sh (.int (b : Nat)), x2, .sh (.int ((1 + m0 : Nat) : Int)), x4, x5, .ow (.lst (r.map pr)), .sh (.int (0 + (j : Int))), .no, .no], [.sh (.cel 0), .sh (.int (b : Nat)), x2, .sh (.int ((1 + m0 : Nat) : Int)), x4, x5, .ow (.lst ((r ++ [(p, g)]).map pr)), .sh (.int (0 + (j : Int))), .no, .no], SS ns (k' + 1 + 1), rfl, .inl ?_, r ++ [(p, g)], _, _, by rw [List.length_append, hrl]; rfl, ⟨fun q hq => ?_, ?_⟩, rfl, rfl⟩
      · refine sx (ρ' := [.sh (.cel 0), .sh (.int (b : Nat)), x2, .sh (.int ((1 + m0 : Nat) : Int)), x4, x5, .ow (.lst ((r ++ [(p, g)]).map pr)), .sh (.int (0 + (j : Int))), .no, .no]) (S' := SS ns (k' + 1 + 1)) ?_ rfl
        have hcall : eCall F__law_pick (aCons (eV false 0) (aCons (eComp (eV false 8) (gN 8) (iR1 (eBin .mul (eV true 1) (eV true 1))) (tT (eCmp .notin (eV true 8) (eComp (eIx (eV true 9) (eC (.int 0))) (gN 9) (iE (eV true 6)) (tYes))))) (aNil))) [.sh (.cel 0), .sh (.int (b : Nat)), x2, .sh (.int ((1 + m0 : Nat) : Int)), x4, x5, .ow (.lst (r.map pr)), .sh (.int (0 + (j : Int))), .no, .no] (SS ns k') = .ok (.sh, nI p) (SS ns (k' + 1)) := by
          simp only [eCall, aCons, aNil, eV, lookR, List.getElem?_cons_zero, Res.bind_ok, kp_sh, kp_ow, hc, hpick]
        unfold sAppend eTup
        simp only [aCons, hcall, List.getElem?_cons_succ, List.getElem?_cons_zero, Res.bind_ok, kp_sh]
        simp only [fnR, fnI, fin0, sSeq, sNil, sAsg, sAsgO, sPar, parE, slOf, sIf, sFor, sRet, sRetV, sRetN, sEx, sAug, augR, sAppend, sFrz, frzE, sSetFl, sDead, eC, eV, lookR, CC.e1, CC.e2, eBin, eNeg, eNot, eCmp, eChn, eAnd, eOr, eIf, aNil, aCons, pCons, rNil, rCons, eTup, eLst, eCell, eIx, oNo, oE, eSl, eRev, eAtt, eCall, eMk, eBt, eIsi, eIsc, eIndex, eComp, eLenset, tT, tNot, tAnd, tOr, tYes, gN, gNil, gCons, gT, iE, iK, iR1, iR2, iR3, iEnum, iEnumK, iZip, iZipK, itemsR, negR, revR, slR, kp_sh, kp_ow, okS, okO, Res.bind_ok, Res.bind_bad, truthR, binR, addR, subR, mulR, fdivR, modR, powR, cmpR, leR, ltR, isR, isNon, isiR, isTyp, tyIs, List.any, List.all, lenR, absR, minR, maxR, intR, boolR, listR, tupleR, List.set_cons_zero, List.set_cons_succ, List.getElem?_cons_zero, List.getElem?_cons_succ, List.length_cons, List.length_nil, List.map_cons, List.map_nil, List.replicate_zero, List.replicate_succ, List.cons_append, List.nil_append, List.append_nil, Nat.reduceAdd, Nat.reduceSub, Nat.reduceEqDiff, Nat.reduceMul, Nat.reduceLT, Nat.reduceLeDiff, Nat.zero_add, Option.bind_some, Option.map_some, if_true, if_false, ite_true, ite_false, reduceIte, reduceCtorEq, Bool.not_true, Bool.not_false, Bool.true_and, Bool.false_and, Bool.and_true, Bool.and_false, Bool.or_true, Bool.or_false, Bool.true_or, Bool.false_or, beq_self_eq_true, bne_self_eq_false, ne_eq, not_true_eq_false, not_false_eq_true, Option.some.injEq, Prod.mk.injEq, and_self, and_true, true_and, decide_true, decide_false, Bool.false_eq_true, htake, if_pos (show 2 ≤ szLine by decide), if_pos hz]
        simp [pr, nI]
      · rcases List.mem_append.mp hq with hq | hq
        · exact hro.1 q hq
        · rw [List.mem_singleton.mp hq]
          exact ⟨List.mem_range.mp hpm.1, hg⟩
      · rw [List.map_append, List.nodup_append]
        refine ⟨hro.2, by simp, fun a ha c hc => ?_⟩
        rw [List.map_cons, List.map_nil, List.mem_singleton] at hc
        rw [hc]
        intro e
        have e' : a = p := e
        have := hpm.2
        rw [← e'] at this
        simp at this
        obtain ⟨q, hq, hqa⟩ := List.mem_map.mp ha
        exact this q.2 (by rw [← hqa]; exact hq))
    exact ⟨r, k', y, hrl, hro, h⟩
  obtain ⟨ρ', S', h, rows, x5, x6, x7, k', hl, hrows, rfl, rfl⟩ := forL_range (g := gN 5) (body := sSeq (sAsgO 6 (eLst (aNil)))
    (sSeq (sFor (gN 7) (iR1 (eBin .mul (eV true 1) (eV true 1)))
    (sSeq (sAppend 6 (eTup (aCons (eCall F__law_pick (aCons (eV false 0) (aCons (eComp (eV false 8) (gN 8) (iR1 (eBin .mul (eV true 1) (eV true 1))) (tT (eCmp .notin (eV true 8) (eComp (eIx (eV true 9) (eC (.int 0))) (gN 9) (iE (eV true 6)) (tYes))))) (aNil)))) (aCons (eCall F__law_take (aCons (eV false 0) (aCons (eV false 3) (aNil)))) (aNil)))))
    (sNil)))
    (sSeq (sFrz [6] (sAppend 4 (eV false 6)))
    (sNil))))
    (fun j ρ S => ∃ (rows : Rows) (x5 x6 x7 : Sl) (k' : Nat), rows.length = j ∧ (∀ r ∈ rows, r.length = b * b ∧ rowOk (b * b) (1 + m0) r) ∧ ρ = [.sh (.cel 0), .sh (.int (b : Nat)), .sh (.int (most : Nat)), .sh (.int ((1 + m0 : Nat) : Int)), .ow (.lst (rows.map fun r => .lst (r.map pr))), x5, x6, x7, .no, .no] ∧ S = SS ns k') 0 (1 + m0)
    [.sh (.cel 0), .sh (.int (b : Nat)), .sh (.int (most : Nat)), .sh (.int ((1 + m0 : Nat) : Int)), .ow (.lst []), .no, .no, .no, .no, .no] (SS ns (k + 1)) ⟨[], .no, .no, .no, k + 1, rfl, by simp, rfl, rfl⟩ (by
    rintro j ρ S hj ⟨rows, x5, x6, x7, k', hl, hrows, rfl, rfl⟩
    obtain ⟨r, k2, y, hrl, hro, hf⟩ := inner (.sh (.cel 0)) (.sh (.int (most : Nat))) (.ow (.lst (rows.map fun r => .lst (r.map pr)))) (.sh (.int (0 + (j : Int)))) x7 k' rfl
    have hz : (rows.map fun r => D.lst (r.map pr)).length < szLine := by rw [List.length_map]; unfold szLine; omega
    refine ⟨_, [.sh (.cel 0), .sh (.int (b : Nat)), .sh (.int (most : Nat)), .sh (.int ((1 + m0 : Nat) : Int)), .ow (.lst ((rows ++ [r]).map fun r => .lst (r.map pr))), .sh (.int (0 + (j : Int))), .sh (.lst (r.map pr)), y, .no, .no], SS ns k2, rfl, .inl ?_, rows ++ [r], _, _, _, k2, by rw [List.length_append, hl]; rfl, fun q hq => ?_, rfl, rfl⟩
    · refine sx (ρ' := [.sh (.cel 0), .sh (.int (b : Nat)), .sh (.int (most : Nat)), .sh (.int ((1 + m0 : Nat) : Int)), .ow (.lst (rows.map fun r => .lst (r.map pr))), .sh (.int (0 + (j : Int))), .ow (.lst []), x7, .no, .no]) (S' := SS ns k') ?_ (sx (for_sx (xs := rangeD 0 (b * b)) (S1 := SS ns k') ?_ hf) (sx (S' := SS ns k2) ?_ rfl))
      · simp only [fnR, fnI, fin0, sSeq, sNil, sAsg, sAsgO, sPar, parE, slOf, sIf, sFor, sRet, sRetV, sRetN, sEx, sAug, augR, sAppend, sFrz, frzE, sSetFl, sDead, eC, eV, lookR, CC.e1, CC.e2, eBin, eNeg, eNot, eCmp, eChn, eAnd, eOr, eIf, aNil, aCons, pCons, rNil, rCons, eTup, eLst, eCell, eIx, oNo, oE, eSl, eRev, eAtt, eCall, eMk, eBt, eIsi, eIsc, eIndex, eComp, eLenset, tT, tNot, tAnd, tOr, tYes, gN, gNil, gCons, gT, iE, iK, iR1, iR2, iR3, iEnum, iEnumK, iZip, iZipK, itemsR, negR, revR, slR, kp_sh, kp_ow, okS, okO, Res.bind_ok, Res.bind_bad, truthR, binR, addR, subR, mulR, fdivR, modR, powR, cmpR, leR, ltR, isR, isNon, isiR, isTyp, tyIs, List.any, List.all, lenR, absR, minR, maxR, intR, boolR, listR, tupleR, List.set_cons_zero, List.set_cons_succ, List.getElem?_cons_zero, List.getElem?_cons_succ, List.length_cons, List.length_nil, List.map_cons, List.map_nil, List.replicate_zero, List.replicate_succ, List.cons_append, List.nil_append, List.append_nil, Nat.reduceAdd, Nat.reduceSub, Nat.reduceEqDiff, Nat.reduceMul, Nat.reduceLT, Nat.reduceLeDiff, Nat.zero_add, Option.bind_some, Option.map_some, if_true, if_false, ite_true, ite_false, reduceIte, reduceCtorEq, Bool.not_true, Bool.not_false, Bool.true_and, Bool.false_and, Bool.and_true, Bool.and_false, Bool.or_true, Bool.or_false, Bool.true_or, Bool.false_or, beq_self_eq_true, bne_self_eq_false, ne_eq, not_true_eq_false, not_false_eq_true, Option.some.injEq, Prod.mk.injEq, and_self, and_true, true_and, decide_true, decide_false, Bool.false_eq_true, if_pos (show 0 ≤ szLine by decide)]
      · simp only [fnR, fnI, fin0, sSeq, sNil, sAsg, sAsgO, sPar, parE, slOf, sIf, sFor, sRet, sRetV, sRetN, sEx, sAug, augR, sAppend, sFrz, frzE, sSetFl, sDead, eC, eV, lookR, CC.e1, CC.e2, eBin, eNeg, eNot, eCmp, eChn, eAnd, eOr, eIf, aNil, aCons, pCons, rNil, rCons, eTup, eLst, eCell, eIx, oNo, oE, eSl, eRev, eAtt, eCall, eMk, eBt, eIsi, eIsc, eIndex, eComp, eLenset, tT, tNot, tAnd, tOr, tYes, gN, gNil, gCons, gT, iE, iK, iR1, iR2, iR3, iEnum, iEnumK, iZip, iZipK, itemsR, negR, revR, slR, kp_sh, kp_ow, okS, okO, Res.bind_ok, Res.bind_bad, truthR, binR, addR, subR, mulR, fdivR, modR, powR, cmpR, leR, ltR, isR, isNon, isiR, isTyp, tyIs, List.any, List.all, lenR, absR, minR, maxR, intR, boolR, listR, tupleR, List.set_cons_zero, List.set_cons_succ, List.getElem?_cons_zero, List.getElem?_cons_succ, List.length_cons, List.length_nil, List.map_cons, List.map_nil, List.replicate_zero, List.replicate_succ, List.cons_append, List.nil_append, List.append_nil, Nat.reduceAdd, Nat.reduceSub, Nat.reduceEqDiff, Nat.reduceMul, Nat.reduceLT, Nat.reduceLeDiff, Nat.zero_add, Option.bind_some, Option.map_some, if_true, if_false, ite_true, ite_false, reduceIte, reduceCtorEq, Bool.not_true, Bool.not_false, Bool.true_and, Bool.false_and, Bool.and_true, Bool.and_false, Bool.or_true, Bool.or_false, Bool.true_or, Bool.false_or, beq_self_eq_true, bne_self_eq_false, ne_eq, not_true_eq_false, not_false_eq_true, Option.some.injEq, Prod.mk.injEq, and_self, and_true, true_and, decide_true, decide_false, Bool.false_eq_true, hs, or_true, em, hrB, Int.toNat_natCast]
      · simp only [fnR, fnI, fin0, sSeq, sNil, sAsg, sAsgO, sPar, parE, slOf, sIf, sFor, sRet, sRetV, sRetN, sEx, sAug, augR, sAppend, sFrz, frzE, sSetFl, sDead, eC, eV, lookR, CC.e1, CC.e2, eBin, eNeg, eNot, eCmp, eChn, eAnd, eOr, eIf, aNil, aCons, pCons, rNil, rCons, eTup, eLst, eCell, eIx, oNo, oE, eSl, eRev, eAtt, eCall, eMk, eBt, eIsi, eIsc, eIndex, eComp, eLenset, tT, tNot, tAnd, tOr, tYes, gN, gNil, gCons, gT, iE, iK, iR1, iR2, iR3, iEnum, iEnumK, iZip, iZipK, itemsR, negR, revR, slR, kp_sh, kp_ow, okS, okO, Res.bind_ok, Res.bind_bad, truthR, binR, addR, subR, mulR, fdivR, modR, powR, cmpR, leR, ltR, isR, isNon, isiR, isTyp, tyIs, List.any, List.all, lenR, absR, minR, maxR, intR, boolR, listR, tupleR, List.set_cons_zero, List.set_cons_succ, List.getElem?_cons_zero, List.getElem?_cons_succ, List.length_cons, List.length_nil, List.map_cons, List.map_nil, List.replicate_zero, List.replicate_succ, List.cons_append, List.nil_append, List.append_nil, Nat.reduceAdd, Nat.reduceSub, Nat.reduceEqDiff, Nat.reduceMul, Nat.reduceLT, Nat.reduceLeDiff, Nat.zero_add, Option.bind_some, Option.map_some, if_true, if_false, ite_true, ite_false, reduceIte, reduceCtorEq, Bool.not_true, Bool.not_false, Bool.true_and, Bool.false_and, Bool.and_true, Bool.and_false, Bool.or_true, Bool.or_false, Bool.true_or, Bool.false_or, beq_self_eq_true, bne_self_eq_false, ne_eq, not_true_eq_false, not_false_eq_true, Option.some.injEq, Prod.mk.injEq, and_self, and_true, true_and, decide_true, decide_false, Bool.false_eq_true, if_pos hz]
        simp
    · rcases List.mem_append.mp hq with hq | hq
      · exact hrows q hq
      · rw [List.mem_singleton.mp hq]
        exact ⟨hrl, hro⟩)
  refine ⟨rows, k', ⟨hb, by omega, by omega, fun r hr => (hrows r hr).1, fun r hr p hp => ?_, fun r hr => (hrows r hr).2.2⟩, ?_⟩
  · have := (hrows r hr).2.1 p hp
    rw [hl]; exact this
  · refine fnR_ret rfl (ρ := [.sh (.cel 0), .sh (.int (b : Nat)), .sh (.int (most : Nat)), .sh (.int ((1 + m0 : Nat) : Int)), .ow (.lst (rows.map fun r => .lst (r.map pr))), x5, x6, x7, .no, .no]) (sx (ρ' := [.sh (.cel 0), .sh (.int (b : Nat)), .sh (.int (most : Nat)), .sh (.int ((1 + m0 : Nat) : Int)), .ow (.lst []), .no, .no, .no, .no, .no]) (S' := SS ns (k + 1)) ?_ (sx (for_sx (xs := rangeD 0 (1 + m0)) (S1 := SS ns (k + 1)) ?_ h) (sx_ret ?_))) (by simp)
    · simp only [fnR, fnI, fin0, sSeq, sNil, sAsg, sAsgO, sPar, parE, slOf, sIf, sFor, sRet, sRetV, sRetN, sEx, sAug, augR, sAppend, sFrz, frzE, sSetFl, sDead, eC, eV, lookR, CC.e1, CC.e2, eBin, eNeg, eNot, eCmp, eChn, eAnd, eOr, eIf, aNil, aCons, pCons, rNil, rCons, eTup, eLst, eCell, eIx, oNo, oE, eSl, eRev, eAtt, eCall, eMk, eBt, eIsi, eIsc, eIndex, eComp, eLenset, tT, tNot, tAnd, tOr, tYes, gN, gNil, gCons, gT, iE, iK, iR1, iR2, iR3, iEnum, iEnumK, iZip, iZipK, itemsR, negR, revR, slR, kp_sh, kp_ow, okS, okO, Res.bind_ok, Res.bind_bad, truthR, binR, addR, subR, mulR, fdivR, modR, powR, cmpR, leR, ltR, isR, isNon, isiR, isTyp, tyIs, List.any, List.all, lenR, absR, minR, maxR, intR, boolR, listR, tupleR, List.set_cons_zero, List.set_cons_succ, List.getElem?_cons_zero, List.getElem?_cons_succ, List.length_cons, List.length_nil, List.map_cons, List.map_nil, List.replicate_zero, List.replicate_succ, List.cons_append, List.nil_append, List.append_nil, Nat.reduceAdd, Nat.reduceSub, Nat.reduceEqDiff, Nat.reduceMul, Nat.reduceLT, Nat.reduceLeDiff, Nat.zero_add, Option.bind_some, Option.map_some, if_true, if_false, ite_true, ite_false, reduceIte, reduceCtorEq, Bool.not_true, Bool.not_false, Bool.true_and, Bool.false_and, Bool.and_true, Bool.and_false, Bool.or_true, Bool.or_false, Bool.true_or, Bool.false_or, beq_self_eq_true, bne_self_eq_false, ne_eq, not_true_eq_false, not_false_eq_true, Option.some.injEq, Prod.mk.injEq, and_self, and_true, true_and, decide_true, decide_false, Bool.false_eq_true, hk0, if_pos (show 0 ≤ szLine by decide)]
      simp
    · simp only [fnR, fnI, fin0, sSeq, sNil, sAsg, sAsgO, sPar, parE, slOf, sIf, sFor, sRet, sRetV, sRetN, sEx, sAug, augR, sAppend, sFrz, frzE, sSetFl, sDead, eC, eV, lookR, CC.e1, CC.e2, eBin, eNeg, eNot, eCmp, eChn, eAnd, eOr, eIf, aNil, aCons, pCons, rNil, rCons, eTup, eLst, eCell, eIx, oNo, oE, eSl, eRev, eAtt, eCall, eMk, eBt, eIsi, eIsc, eIndex, eComp, eLenset, tT, tNot, tAnd, tOr, tYes, gN, gNil, gCons, gT, iE, iK, iR1, iR2, iR3, iEnum, iEnumK, iZip, iZipK, itemsR, negR, revR, slR, kp_sh, kp_ow, okS, okO, Res.bind_ok, Res.bind_bad, truthR, binR, addR, subR, mulR, fdivR, modR, powR, cmpR, leR, ltR, isR, isNon, isiR, isTyp, tyIs, List.any, List.all, lenR, absR, minR, maxR, intR, boolR, listR, tupleR, List.set_cons_zero, List.set_cons_succ, List.getElem?_cons_zero, List.getElem?_cons_succ, List.length_cons, List.length_nil, List.map_cons, List.map_nil, List.replicate_zero, List.replicate_succ, List.cons_append, List.nil_append, List.append_nil, Nat.reduceAdd, Nat.reduceSub, Nat.reduceEqDiff, Nat.reduceMul, Nat.reduceLT, Nat.reduceLeDiff, Nat.zero_add, Option.bind_some, Option.map_some, if_true, if_false, ite_true, ite_false, reduceIte, reduceCtorEq, Bool.not_true, Bool.not_false, Bool.true_and, Bool.false_and, Bool.and_true, Bool.and_false, Bool.or_true, Bool.or_false, Bool.true_or, Bool.false_or, beq_self_eq_true, bne_self_eq_false, ne_eq, not_true_eq_false, not_false_eq_true, Option.some.injEq, Prod.mk.injEq, and_self, and_true, true_and, decide_true, decide_false, Bool.false_eq_true, hrM, Int.toNat_natCast]
    · simp only [fnR, fnI, fin0, sSeq, sNil, sAsg, sAsgO, sPar, parE, slOf, sIf, sFor, sRet, sRetV, sRetN, sEx, sAug, augR, sAppend, sFrz, frzE, sSetFl, sDead, eC, eV, lookR, CC.e1, CC.e2, eBin, eNeg, eNot, eCmp, eChn, eAnd, eOr, eIf, aNil, aCons, pCons, rNil, rCons, eTup, eLst, eCell, eIx, oNo, oE, eSl, eRev, eAtt, eCall, eMk, eBt, eIsi, eIsc, eIndex, eComp, eLenset, tT, tNot, tAnd, tOr, tYes, gN, gNil, gCons, gT, iE, iK, iR1, iR2, iR3, iEnum, iEnumK, iZip, iZipK, itemsR, negR, revR, slR, kp_sh, kp_ow, okS, okO, Res.bind_ok, Res.bind_bad, truthR, binR, addR, subR, mulR, fdivR, modR, powR, cmpR, leR, ltR, isR, isNon, isiR, isTyp, tyIs, List.any, List.all, lenR, absR, minR, maxR, intR, boolR, listR, tupleR, List.set_cons_zero, List.set_cons_succ, List.getElem?_cons_zero, List.getElem?_cons_succ, List.length_cons, List.length_nil, List.map_cons, List.map_nil, List.replicate_zero, List.replicate_succ, List.cons_append, List.nil_append, List.append_nil, Nat.reduceAdd, Nat.reduceSub, Nat.reduceEqDiff, Nat.reduceMul, Nat.reduceLT, Nat.reduceLeDiff, Nat.zero_add, Option.bind_some, Option.map_some, if_true, if_false, ite_true, ite_false, reduceIte, reduceCtorEq, Bool.not_true, Bool.not_false, Bool.true_and, Bool.false_and, Bool.and_true, Bool.and_false, Bool.or_true, Bool.or_false, Bool.true_or, Bool.false_or, beq_self_eq_true, bne_self_eq_false, ne_eq, not_true_eq_false, not_false_eq_true, Option.some.injEq, Prod.mk.injEq, and_self, and_true, true_and, decide_true, decide_false, Bool.false_eq_true]
def toldD (b : Nat) (rows : Rows) : D := .tup [.int b, .lst (rows.map fun r => .lst (r.map pr))]
theorem curve_ok (ns : List Int) (h63 : ns.length ≤ 63) (k : Nat) : ∃ (b : Nat) (rows : Rows) (k' : Nat), Cv b rows ∧ F__law_curve [.cel 0, .int 4] (SS ns k) = .ok (.sh, toldD b rows) (SS ns k') := by
  obtain ⟨w, hw, ht⟩ := take_ok ns h63 k 7 (by decide)
  have ht' : F__law_take [.cel 0, .int 7] (SS ns k) = .ok (.sh, .int (w : Nat)) (SS ns (k + 1)) := ht
  have z2 : (if 2 ≤ szLine then (1 : Nat) else 0) = 1 := rfl
  by_cases h0 : w = 0
  · subst h0
    refine ⟨2, [[(0, 1), (2, 0), (3, 0), (1, 2)], [(0, 0), (1, 1), (3, 1), (2, 3)], [(3, 3), (2, 2), (0, 2), (1, 0)], [(3, 2), (1, 3), (0, 3), (2, 1)]], k + 1, ⟨.inl rfl, by decide, by decide, by decide, by decide, by decide⟩, ?_⟩
    simp only [fnR, fnI, fin0, sSeq, sNil, sAsg, sAsgO, sPar, parE, slOf, sIf, sFor, sRet, sRetV, sRetN, sEx, sAug, augR, sAppend, sFrz, frzE, sSetFl, sDead, eC, eV, lookR, CC.e1, CC.e2, eBin, eNeg, eNot, eCmp, eChn, eAnd, eOr, eIf, aNil, aCons, pCons, rNil, rCons, eTup, eLst, eCell, eIx, oNo, oE, eSl, eRev, eAtt, eCall, eMk, eBt, eIsi, eIsc, eIndex, eComp, eLenset, tT, tNot, tAnd, tOr, tYes, gN, gNil, gCons, gT, iE, iK, iR1, iR2, iR3, iEnum, iEnumK, iZip, iZipK, itemsR, negR, revR, slR, kp_sh, kp_ow, okS, okO, Res.bind_ok, Res.bind_bad, truthR, binR, addR, subR, mulR, fdivR, modR, powR, cmpR, leR, ltR, isR, isNon, isiR, isTyp, tyIs, List.any, List.all, lenR, absR, minR, maxR, intR, boolR, listR, tupleR, List.set_cons_zero, List.set_cons_succ, List.getElem?_cons_zero, List.getElem?_cons_succ, List.length_cons, List.length_nil, List.map_cons, List.map_nil, List.replicate_zero, List.replicate_succ, List.cons_append, List.nil_append, List.append_nil, Nat.reduceAdd, Nat.reduceSub, Nat.reduceEqDiff, Nat.reduceMul, Nat.reduceLT, Nat.reduceLeDiff, Nat.zero_add, Option.bind_some, Option.map_some, if_true, if_false, ite_true, ite_false, reduceIte, reduceCtorEq, Bool.not_true, Bool.not_false, Bool.true_and, Bool.false_and, Bool.and_true, Bool.and_false, Bool.or_true, Bool.or_false, Bool.true_or, Bool.false_or, beq_self_eq_true, bne_self_eq_false, ne_eq, not_true_eq_false, not_false_eq_true, Option.some.injEq, Prod.mk.injEq, and_self, and_true, true_and, decide_true, decide_false, Bool.false_eq_true, F__law_curve, B__law_curve, ht', eqR, good_nI, gd_int, if_pos (show 2 ≤ szLine by decide), if_pos (show 4 ≤ szLine by decide)]
    rfl
  · by_cases h1 : w = 1
    · subst h1
      refine ⟨2, [[(0, 0), (1, 1), (3, 0), (2, 1)], [(3, 1), (2, 0), (0, 1), (1, 0)]], k + 1, ⟨.inl rfl, by decide, by decide, by decide, by decide, by decide⟩, ?_⟩
      simp only [fnR, fnI, fin0, sSeq, sNil, sAsg, sAsgO, sPar, parE, slOf, sIf, sFor, sRet, sRetV, sRetN, sEx, sAug, augR, sAppend, sFrz, frzE, sSetFl, sDead, eC, eV, lookR, CC.e1, CC.e2, eBin, eNeg, eNot, eCmp, eChn, eAnd, eOr, eIf, aNil, aCons, pCons, rNil, rCons, eTup, eLst, eCell, eIx, oNo, oE, eSl, eRev, eAtt, eCall, eMk, eBt, eIsi, eIsc, eIndex, eComp, eLenset, tT, tNot, tAnd, tOr, tYes, gN, gNil, gCons, gT, iE, iK, iR1, iR2, iR3, iEnum, iEnumK, iZip, iZipK, itemsR, negR, revR, slR, kp_sh, kp_ow, okS, okO, Res.bind_ok, Res.bind_bad, truthR, binR, addR, subR, mulR, fdivR, modR, powR, cmpR, leR, ltR, isR, isNon, isiR, isTyp, tyIs, List.any, List.all, lenR, absR, minR, maxR, intR, boolR, listR, tupleR, List.set_cons_zero, List.set_cons_succ, List.getElem?_cons_zero, List.getElem?_cons_succ, List.length_cons, List.length_nil, List.map_cons, List.map_nil, List.replicate_zero, List.replicate_succ, List.cons_append, List.nil_append, List.append_nil, Nat.reduceAdd, Nat.reduceSub, Nat.reduceEqDiff, Nat.reduceMul, Nat.reduceLT, Nat.reduceLeDiff, Nat.zero_add, Option.bind_some, Option.map_some, if_true, if_false, ite_true, ite_false, reduceIte, reduceCtorEq, Bool.not_true, Bool.not_false, Bool.true_and, Bool.false_and, Bool.and_true, Bool.and_false, Bool.or_true, Bool.or_false, Bool.true_or, Bool.false_or, beq_self_eq_true, bne_self_eq_false, ne_eq, not_true_eq_false, not_false_eq_true, Option.some.injEq, Prod.mk.injEq, and_self, and_true, true_and, decide_true, decide_false, Bool.false_eq_true, F__law_curve, B__law_curve, ht', eqR, good_nI, gd_int, if_pos (show 2 ≤ szLine by decide), if_pos (show 4 ≤ szLine by decide)]
      rfl
    · have e0 : eqv (.int (w : Nat)) (.int 0) = false := by show ((w : Int) == 0) = false; simp; omega
      have e1 : eqv (.int (w : Nat)) (.int 1) = false := by show ((w : Int) == 1) = false; simp; omega
      by_cases h2 : w = 2
      · obtain ⟨rows, k', hc, hr⟩ := rows_ok ns h63 (k + 1) 3 4 (.inr rfl) (by decide) (by decide)
        have hr' : F__law_rows [.cel 0, .int 3, .int 4] (SS ns (k + 1)) = .ok (.ow, .lst (rows.map fun r => .lst (r.map pr))) (SS ns k') := hr
        have e2 : eqv (.int (w : Nat)) (.int 2) = true := by subst h2; rfl
        refine ⟨3, rows, k', hc, ?_⟩
        simp only [fnR, fnI, fin0, sSeq, sNil, sAsg, sAsgO, sPar, parE, slOf, sIf, sFor, sRet, sRetV, sRetN, sEx, sAug, augR, sAppend, sFrz, frzE, sSetFl, sDead, eC, eV, lookR, CC.e1, CC.e2, eBin, eNeg, eNot, eCmp, eChn, eAnd, eOr, eIf, aNil, aCons, pCons, rNil, rCons, eTup, eLst, eCell, eIx, oNo, oE, eSl, eRev, eAtt, eCall, eMk, eBt, eIsi, eIsc, eIndex, eComp, eLenset, tT, tNot, tAnd, tOr, tYes, gN, gNil, gCons, gT, iE, iK, iR1, iR2, iR3, iEnum, iEnumK, iZip, iZipK, itemsR, negR, revR, slR, kp_sh, kp_ow, okS, okO, Res.bind_ok, Res.bind_bad, truthR, binR, addR, subR, mulR, fdivR, modR, powR, cmpR, leR, ltR, isR, isNon, isiR, isTyp, tyIs, List.any, List.all, lenR, absR, minR, maxR, intR, boolR, listR, tupleR, List.set_cons_zero, List.set_cons_succ, List.getElem?_cons_zero, List.getElem?_cons_succ, List.length_cons, List.length_nil, List.map_cons, List.map_nil, List.replicate_zero, List.replicate_succ, List.cons_append, List.nil_append, List.append_nil, Nat.reduceAdd, Nat.reduceSub, Nat.reduceEqDiff, Nat.reduceMul, Nat.reduceLT, Nat.reduceLeDiff, Nat.zero_add, Option.bind_some, Option.map_some, if_true, if_false, ite_true, ite_false, reduceIte, reduceCtorEq, Bool.not_true, Bool.not_false, Bool.true_and, Bool.false_and, Bool.and_true, Bool.and_false, Bool.or_true, Bool.or_false, Bool.true_or, Bool.false_or, beq_self_eq_true, bne_self_eq_false, ne_eq, not_true_eq_false, not_false_eq_true, Option.some.injEq, Prod.mk.injEq, and_self, and_true, true_and, decide_true, decide_false, Bool.false_eq_true, F__law_curve, B__law_curve, ht', eqR, good_nI, gd_int, e0, e1, e2, Bool.bne_false, Bool.bne_true, Bool.false_bne, Bool.true_bne, hr', if_pos (show 2 ≤ szLine by decide)]
        rfl
      · obtain ⟨rows, k', hc, hr⟩ := rows_ok ns h63 (k + 1) 2 4 (.inl rfl) (by decide) (by decide)
        have hr' : F__law_rows [.cel 0, .int 2, .int 4] (SS ns (k + 1)) = .ok (.ow, .lst (rows.map fun r => .lst (r.map pr))) (SS ns k') := hr
        have e2 : eqv (.int (w : Nat)) (.int 2) = false := by show ((w : Int) == 2) = false; simp; omega
        refine ⟨2, rows, k', hc, ?_⟩
        simp only [fnR, fnI, fin0, sSeq, sNil, sAsg, sAsgO, sPar, parE, slOf, sIf, sFor, sRet, sRetV, sRetN, sEx, sAug, augR, sAppend, sFrz, frzE, sSetFl, sDead, eC, eV, lookR, CC.e1, CC.e2, eBin, eNeg, eNot, eCmp, eChn, eAnd, eOr, eIf, aNil, aCons, pCons, rNil, rCons, eTup, eLst, eCell, eIx, oNo, oE, eSl, eRev, eAtt, eCall, eMk, eBt, eIsi, eIsc, eIndex, eComp, eLenset, tT, tNot, tAnd, tOr, tYes, gN, gNil, gCons, gT, iE, iK, iR1, iR2, iR3, iEnum, iEnumK, iZip, iZipK, itemsR, negR, revR, slR, kp_sh, kp_ow, okS, okO, Res.bind_ok, Res.bind_bad, truthR, binR, addR, subR, mulR, fdivR, modR, powR, cmpR, leR, ltR, isR, isNon, isiR, isTyp, tyIs, List.any, List.all, lenR, absR, minR, maxR, intR, boolR, listR, tupleR, List.set_cons_zero, List.set_cons_succ, List.getElem?_cons_zero, List.getElem?_cons_succ, List.length_cons, List.length_nil, List.map_cons, List.map_nil, List.replicate_zero, List.replicate_succ, List.cons_append, List.nil_append, List.append_nil, Nat.reduceAdd, Nat.reduceSub, Nat.reduceEqDiff, Nat.reduceMul, Nat.reduceLT, Nat.reduceLeDiff, Nat.zero_add, Option.bind_some, Option.map_some, if_true, if_false, ite_true, ite_false, reduceIte, reduceCtorEq, Bool.not_true, Bool.not_false, Bool.true_and, Bool.false_and, Bool.and_true, Bool.and_false, Bool.or_true, Bool.or_false, Bool.true_or, Bool.false_or, beq_self_eq_true, bne_self_eq_false, ne_eq, not_true_eq_false, not_false_eq_true, Option.some.injEq, Prod.mk.injEq, and_self, and_true, true_and, decide_true, decide_false, Bool.false_eq_true, F__law_curve, B__law_curve, ht', eqR, good_nI, gd_int, e0, e1, e2, Bool.bne_false, Bool.bne_true, Bool.false_bne, Bool.true_bne, hr', if_pos (show 2 ≤ szLine by decide)]
        rfl
/-! ### the curve built -/
theorem init_ok {b : Nat} {rows : Rows} (c : Cv b rows) (S : Sto) : F_Curve___init__ (.obj c_Curve []) [.int b, .lst (rows.map fun r => .lst (r.map pr))] S = .ok (.non, cvD b rows) S := by
  have hb := c.b10
  have hs : Small (b : Int) := small_nat (by omega)
  have em : ((b : Nat) : Int) * ((b : Nat) : Int) = ((b * b : Nat) : Int) := by simp
  have hb23 : (2 : Int) ≤ b ∧ (b : Int) ≤ 3 := by rcases c.hb with rfl | rfl <;> decide
  have n1 := c.n1
  have n2 := c.n2
  have hloop : ∃ x y, forL (gT (gCons (gN 3) (gCons (gN 4) (gNil)))) (sSeq (sIf (tOr (tNot (tT (eCall F_is_row (aCons (eV false 4) (aNil))))) (tT (eCmp .ne (eBt lenR (pCons (eV true 4) (aNil))) (eBin .mul (eV true 1) (eV true 1)))))
    (sSeq (sDead)
    (sNil))
    (sNil))
    (sSeq (sIf (tNot (tT (eBt allR (pCons (eComp (eAnd (eIsi [.tuple] (eV true 5)) (eCmp .eq (eBt lenR (pCons (eV true 5) (aNil))) (eC (.int 2)))) (gN 5) (iE (eV true 4)) (tYes)) (aNil)))))
    (sSeq (sDead)
    (sNil))
    (sNil))
    (sSeq (sIf (tNot (tT (eBt allR (pCons (eComp (eCall F_is_number (aCons (eV false 7) (aCons (eC (.int 0)) (aCons (eBin .sub (eBt lenR (pCons (eV true 2) (aNil))) (eC (.int 1))) (aNil))))) (gT (gCons (gN 6) (gCons (gN 7) (gNil)))) (iE (eV true 4)) (tYes)) (aNil)))))
    (sSeq (sDead)
    (sNil))
    (sNil))
    (sSeq (sIf (tNot (tT (eBt allR (pCons (eComp (eCall F_is_number (aCons (eV false 6) (aCons (eC (.int 0)) (aCons (eBin .sub (eBin .mul (eV true 1) (eV true 1)) (eC (.int 1))) (aNil))))) (gT (gCons (gN 6) (gCons (gN 7) (gNil)))) (iE (eV true 4)) (tYes)) (aNil)))))
    (sSeq (sDead)
    (sNil))
    (sNil))
    (sSeq (sIf (tT (eCmp .lt (eLenset (eComp (eV false 6) (gT (gCons (gN 6) (gCons (gN 7) (gNil)))) (iE (eV true 4)) (tYes))) (eBin .mul (eV true 1) (eV true 1))))
    (sSeq (sDead)
    (sNil))
    (sNil))
    (sNil)))))) (enumD (rows.map fun r => .lst (r.map pr))) [.ow (.obj c_Curve []), .sh (.int b), .sh (.lst (rows.map fun r => .lst (r.map pr))), .no, .no, .no, .no, .no] S = .ok (.nx [.ow (.obj c_Curve []), .sh (.int b), .sh (.lst (rows.map fun r => .lst (r.map pr))), x, y, .no, .no, .no]) S := by
    obtain ⟨ρ', S', h, x, y, rfl, rfl⟩ := forL_inv (g := gT (gCons (gN 3) (gCons (gN 4) (gNil)))) (body := sSeq (sIf (tOr (tNot (tT (eCall F_is_row (aCons (eV false 4) (aNil))))) (tT (eCmp .ne (eBt lenR (pCons (eV true 4) (aNil))) (eBin .mul (eV true 1) (eV true 1)))))
    (sSeq (sDead)
    (sNil))
    (sNil))
    (sSeq (sIf (tNot (tT (eBt allR (pCons (eComp (eAnd (eIsi [.tuple] (eV true 5)) (eCmp .eq (eBt lenR (pCons (eV true 5) (aNil))) (eC (.int 2)))) (gN 5) (iE (eV true 4)) (tYes)) (aNil)))))
    (sSeq (sDead)
    (sNil))
    (sNil))
    (sSeq (sIf (tNot (tT (eBt allR (pCons (eComp (eCall F_is_number (aCons (eV false 7) (aCons (eC (.int 0)) (aCons (eBin .sub (eBt lenR (pCons (eV true 2) (aNil))) (eC (.int 1))) (aNil))))) (gT (gCons (gN 6) (gCons (gN 7) (gNil)))) (iE (eV true 4)) (tYes)) (aNil)))))
    (sSeq (sDead)
    (sNil))
    (sNil))
    (sSeq (sIf (tNot (tT (eBt allR (pCons (eComp (eCall F_is_number (aCons (eV false 6) (aCons (eC (.int 0)) (aCons (eBin .sub (eBin .mul (eV true 1) (eV true 1)) (eC (.int 1))) (aNil))))) (gT (gCons (gN 6) (gCons (gN 7) (gNil)))) (iE (eV true 4)) (tYes)) (aNil)))))
    (sSeq (sDead)
    (sNil))
    (sNil))
    (sSeq (sIf (tT (eCmp .lt (eLenset (eComp (eV false 6) (gT (gCons (gN 6) (gCons (gN 7) (gNil)))) (iE (eV true 4)) (tYes))) (eBin .mul (eV true 1) (eV true 1))))
    (sSeq (sDead)
    (sNil))
    (sNil))
    (sNil)))))) (fun j ρ S' => ∃ x y, ρ = [.ow (.obj c_Curve []), .sh (.int b), .sh (.lst (rows.map fun r => .lst (r.map pr))), x, y, .no, .no, .no] ∧ S' = S) (enumD (rows.map fun r => .lst (r.map pr))) [.ow (.obj c_Curve []), .sh (.int b), .sh (.lst (rows.map fun r => .lst (r.map pr))), .no, .no, .no, .no, .no] S ⟨.no, .no, rfl, rfl⟩ (by
      rintro j d ρ S' hj ⟨x, y, rfl, rfl⟩
      obtain ⟨d, hd, rfl⟩ := enumD_get hj
      rw [List.getElem?_map] at hd
      obtain ⟨r, hr, rfl⟩ := Option.map_eq_some_iff.mp hd
      have hm := List.mem_of_getElem? hr
      have hlen := c.len r hm
      have hz : (r.map pr).length ≤ szLine := szl _ (by rw [List.length_map, hlen]; omega)
      have hL : (((r.map pr).length : Nat) : Int) = ((b * b : Nat) : Int) := by rw [List.length_map, hlen]
      have hR : (((rows.map fun r => D.lst (r.map pr)).length : Nat) : Int) = (rows.length : Int) := by rw [List.length_map]
      refine ⟨[.ow (.obj c_Curve []), .sh (.int b), .sh (.lst (rows.map fun r => .lst (r.map pr))), .sh (.int (j : Nat)), .sh (.lst (r.map pr)), .no, .no, .no], [.ow (.obj c_Curve []), .sh (.int b), .sh (.lst (rows.map fun r => .lst (r.map pr))), .sh (.int (j : Nat)), .sh (.lst (r.map pr)), .no, .no, .no], S', rfl, .inl ?_, _, _, rfl, rfl⟩
      have a1 : tT (eBt allR (pCons (eComp (eAnd (eIsi [.tuple] (eV true 5)) (eCmp .eq (eBt lenR (pCons (eV true 5) (aNil))) (eC (.int 2)))) (gN 5) (iE (eV true 4)) (tYes)) (aNil))) [.ow (.obj c_Curve []), .sh (.int b), .sh (.lst (rows.map fun r => .lst (r.map pr))), .sh (.int (j : Nat)), .sh (.lst (r.map pr)), .no, .no, .no] S' = .ok true S' := all_ok (xs := r.map pr) (by simp only [fnR, fnI, fin0, sSeq, sNil, sAsg, sAsgO, sPar, parE, slOf, sIf, sFor, sRet, sRetV, sRetN, sEx, sAug, augR, sAppend, sFrz, frzE, sSetFl, sDead, eC, eV, lookR, CC.e1, CC.e2, eBin, eNeg, eNot, eCmp, eChn, eAnd, eOr, eIf, aNil, aCons, pCons, rNil, rCons, eTup, eLst, eCell, eIx, oNo, oE, eSl, eRev, eAtt, eCall, eMk, eBt, eIsi, eIsc, eIndex, eComp, eLenset, tT, tNot, tAnd, tOr, tYes, gN, gNil, gCons, gT, iE, iK, iR1, iR2, iR3, iEnum, iEnumK, iZip, iZipK, itemsR, negR, revR, slR, kp_sh, kp_ow, okS, okO, Res.bind_ok, Res.bind_bad, truthR, binR, addR, subR, mulR, fdivR, modR, powR, cmpR, leR, ltR, isR, isNon, isiR, isTyp, tyIs, List.any, List.all, lenR, absR, minR, maxR, intR, boolR, listR, tupleR, List.set_cons_zero, List.set_cons_succ, List.getElem?_cons_zero, List.getElem?_cons_succ, List.length_cons, List.length_nil, List.map_cons, List.map_nil, List.replicate_zero, List.replicate_succ, List.cons_append, List.nil_append, List.append_nil, Nat.reduceAdd, Nat.reduceSub, Nat.reduceEqDiff, Nat.reduceMul, Nat.reduceLT, Nat.reduceLeDiff, Nat.zero_add, Option.bind_some, Option.map_some, if_true, if_false, ite_true, ite_false, reduceIte, reduceCtorEq, Bool.not_true, Bool.not_false, Bool.true_and, Bool.false_and, Bool.and_true, Bool.and_false, Bool.or_true, Bool.or_false, Bool.true_or, Bool.false_or, beq_self_eq_true, bne_self_eq_false, ne_eq, not_true_eq_false, not_false_eq_true, Option.some.injEq, Prod.mk.injEq, and_self, and_true, true_and, decide_true, decide_false, Bool.false_eq_true]) (fun x hx => by
        obtain ⟨q, _, rfl⟩ := List.mem_map.mp hx
        rw [show pr q = .tup [.int q.1, .int q.2] from rfl]
        unfold cBody
        simp only [fnR, fnI, fin0, sSeq, sNil, sAsg, sAsgO, sPar, parE, slOf, sIf, sFor, sRet, sRetV, sRetN, sEx, sAug, augR, sAppend, sFrz, frzE, sSetFl, sDead, eC, eV, lookR, CC.e1, CC.e2, eBin, eNeg, eNot, eCmp, eChn, eAnd, eOr, eIf, aNil, aCons, pCons, rNil, rCons, eTup, eLst, eCell, eIx, oNo, oE, eSl, eRev, eAtt, eCall, eMk, eBt, eIsi, eIsc, eIndex, eComp, eLenset, tT, tNot, tAnd, tOr, tYes, gN, gNil, gCons, gT, iE, iK, iR1, iR2, iR3, iEnum, iEnumK, iZip, iZipK, itemsR, negR, revR, slR, kp_sh, kp_ow, okS, okO, Res.bind_ok, Res.bind_bad, truthR, binR, addR, subR, mulR, fdivR, modR, powR, cmpR, leR, ltR, isR, isNon, isiR, isTyp, tyIs, List.any, List.all, lenR, absR, minR, maxR, intR, boolR, listR, tupleR, List.set_cons_zero, List.set_cons_succ, List.getElem?_cons_zero, List.getElem?_cons_succ, List.length_cons, List.length_nil, List.map_cons, List.map_nil, List.replicate_zero, List.replicate_succ, List.cons_append, List.nil_append, List.append_nil, Nat.reduceAdd, Nat.reduceSub, Nat.reduceEqDiff, Nat.reduceMul, Nat.reduceLT, Nat.reduceLeDiff, Nat.zero_add, Option.bind_some, Option.map_some, if_true, if_false, ite_true, ite_false, reduceIte, reduceCtorEq, Bool.not_true, Bool.not_false, Bool.true_and, Bool.false_and, Bool.and_true, Bool.and_false, Bool.or_true, Bool.or_false, Bool.true_or, Bool.false_or, beq_self_eq_true, bne_self_eq_false, ne_eq, not_true_eq_false, not_false_eq_true, Option.some.injEq, Prod.mk.injEq, and_self, and_true, true_and, decide_true, decide_false, Bool.false_eq_true, eq_int]
        rfl) hz
      have a2 : tT (eBt allR (pCons (eComp (eCall F_is_number (aCons (eV false 7) (aCons (eC (.int 0)) (aCons (eBin .sub (eBt lenR (pCons (eV true 2) (aNil))) (eC (.int 1))) (aNil))))) (gT (gCons (gN 6) (gCons (gN 7) (gNil)))) (iE (eV true 4)) (tYes)) (aNil))) [.ow (.obj c_Curve []), .sh (.int b), .sh (.lst (rows.map fun r => .lst (r.map pr))), .sh (.int (j : Nat)), .sh (.lst (r.map pr)), .no, .no, .no] S' = .ok true S' := all_ok (xs := r.map pr) (by simp only [fnR, fnI, fin0, sSeq, sNil, sAsg, sAsgO, sPar, parE, slOf, sIf, sFor, sRet, sRetV, sRetN, sEx, sAug, augR, sAppend, sFrz, frzE, sSetFl, sDead, eC, eV, lookR, CC.e1, CC.e2, eBin, eNeg, eNot, eCmp, eChn, eAnd, eOr, eIf, aNil, aCons, pCons, rNil, rCons, eTup, eLst, eCell, eIx, oNo, oE, eSl, eRev, eAtt, eCall, eMk, eBt, eIsi, eIsc, eIndex, eComp, eLenset, tT, tNot, tAnd, tOr, tYes, gN, gNil, gCons, gT, iE, iK, iR1, iR2, iR3, iEnum, iEnumK, iZip, iZipK, itemsR, negR, revR, slR, kp_sh, kp_ow, okS, okO, Res.bind_ok, Res.bind_bad, truthR, binR, addR, subR, mulR, fdivR, modR, powR, cmpR, leR, ltR, isR, isNon, isiR, isTyp, tyIs, List.any, List.all, lenR, absR, minR, maxR, intR, boolR, listR, tupleR, List.set_cons_zero, List.set_cons_succ, List.getElem?_cons_zero, List.getElem?_cons_succ, List.length_cons, List.length_nil, List.map_cons, List.map_nil, List.replicate_zero, List.replicate_succ, List.cons_append, List.nil_append, List.append_nil, Nat.reduceAdd, Nat.reduceSub, Nat.reduceEqDiff, Nat.reduceMul, Nat.reduceLT, Nat.reduceLeDiff, Nat.zero_add, Option.bind_some, Option.map_some, if_true, if_false, ite_true, ite_false, reduceIte, reduceCtorEq, Bool.not_true, Bool.not_false, Bool.true_and, Bool.false_and, Bool.and_true, Bool.and_false, Bool.or_true, Bool.or_false, Bool.true_or, Bool.false_or, beq_self_eq_true, bne_self_eq_false, ne_eq, not_true_eq_false, not_false_eq_true, Option.some.injEq, Prod.mk.injEq, and_self, and_true, true_and, decide_true, decide_false, Bool.false_eq_true]) (fun x hx => by
        obtain ⟨q, hq, rfl⟩ := List.mem_map.mp hx
        have := (c.lt r hm q hq).2
        rw [show pr q = .tup [.int q.1, .int q.2] from rfl]
        unfold cBody
        simp only [fnR, fnI, fin0, sSeq, sNil, sAsg, sAsgO, sPar, parE, slOf, sIf, sFor, sRet, sRetV, sRetN, sEx, sAug, augR, sAppend, sFrz, frzE, sSetFl, sDead, eC, eV, lookR, CC.e1, CC.e2, eBin, eNeg, eNot, eCmp, eChn, eAnd, eOr, eIf, aNil, aCons, pCons, rNil, rCons, eTup, eLst, eCell, eIx, oNo, oE, eSl, eRev, eAtt, eCall, eMk, eBt, eIsi, eIsc, eIndex, eComp, eLenset, tT, tNot, tAnd, tOr, tYes, gN, gNil, gCons, gT, iE, iK, iR1, iR2, iR3, iEnum, iEnumK, iZip, iZipK, itemsR, negR, revR, slR, kp_sh, kp_ow, okS, okO, Res.bind_ok, Res.bind_bad, truthR, binR, addR, subR, mulR, fdivR, modR, powR, cmpR, leR, ltR, isR, isNon, isiR, isTyp, tyIs, List.any, List.all, lenR, absR, minR, maxR, intR, boolR, listR, tupleR, List.set_cons_zero, List.set_cons_succ, List.getElem?_cons_zero, List.getElem?_cons_succ, List.length_cons, List.length_nil, List.map_cons, List.map_nil, List.replicate_zero, List.replicate_succ, List.cons_append, List.nil_append, List.append_nil, Nat.reduceAdd, Nat.reduceSub, Nat.reduceEqDiff, Nat.reduceMul, Nat.reduceLT, Nat.reduceLeDiff, Nat.zero_add, Option.bind_some, Option.map_some, if_true, if_false, ite_true, ite_false, reduceIte, reduceCtorEq, Bool.not_true, Bool.not_false, Bool.true_and, Bool.false_and, Bool.and_true, Bool.and_false, Bool.or_true, Bool.or_false, Bool.true_or, Bool.false_or, beq_self_eq_true, bne_self_eq_false, ne_eq, not_true_eq_false, not_false_eq_true, Option.some.injEq, Prod.mk.injEq, and_self, and_true, true_and, decide_true, decide_false, Bool.false_eq_true, hR, is_number_ok (i := (q.2 : Int)) (a := 0) (b := (rows.length : Int) - 1) (by omega) (by omega)]) hz
      have a3 : tT (eBt allR (pCons (eComp (eCall F_is_number (aCons (eV false 6) (aCons (eC (.int 0)) (aCons (eBin .sub (eBin .mul (eV true 1) (eV true 1)) (eC (.int 1))) (aNil))))) (gT (gCons (gN 6) (gCons (gN 7) (gNil)))) (iE (eV true 4)) (tYes)) (aNil))) [.ow (.obj c_Curve []), .sh (.int b), .sh (.lst (rows.map fun r => .lst (r.map pr))), .sh (.int (j : Nat)), .sh (.lst (r.map pr)), .no, .no, .no] S' = .ok true S' := all_ok (xs := r.map pr) (by simp only [fnR, fnI, fin0, sSeq, sNil, sAsg, sAsgO, sPar, parE, slOf, sIf, sFor, sRet, sRetV, sRetN, sEx, sAug, augR, sAppend, sFrz, frzE, sSetFl, sDead, eC, eV, lookR, CC.e1, CC.e2, eBin, eNeg, eNot, eCmp, eChn, eAnd, eOr, eIf, aNil, aCons, pCons, rNil, rCons, eTup, eLst, eCell, eIx, oNo, oE, eSl, eRev, eAtt, eCall, eMk, eBt, eIsi, eIsc, eIndex, eComp, eLenset, tT, tNot, tAnd, tOr, tYes, gN, gNil, gCons, gT, iE, iK, iR1, iR2, iR3, iEnum, iEnumK, iZip, iZipK, itemsR, negR, revR, slR, kp_sh, kp_ow, okS, okO, Res.bind_ok, Res.bind_bad, truthR, binR, addR, subR, mulR, fdivR, modR, powR, cmpR, leR, ltR, isR, isNon, isiR, isTyp, tyIs, List.any, List.all, lenR, absR, minR, maxR, intR, boolR, listR, tupleR, List.set_cons_zero, List.set_cons_succ, List.getElem?_cons_zero, List.getElem?_cons_succ, List.length_cons, List.length_nil, List.map_cons, List.map_nil, List.replicate_zero, List.replicate_succ, List.cons_append, List.nil_append, List.append_nil, Nat.reduceAdd, Nat.reduceSub, Nat.reduceEqDiff, Nat.reduceMul, Nat.reduceLT, Nat.reduceLeDiff, Nat.zero_add, Option.bind_some, Option.map_some, if_true, if_false, ite_true, ite_false, reduceIte, reduceCtorEq, Bool.not_true, Bool.not_false, Bool.true_and, Bool.false_and, Bool.and_true, Bool.and_false, Bool.or_true, Bool.or_false, Bool.true_or, Bool.false_or, beq_self_eq_true, bne_self_eq_false, ne_eq, not_true_eq_false, not_false_eq_true, Option.some.injEq, Prod.mk.injEq, and_self, and_true, true_and, decide_true, decide_false, Bool.false_eq_true]) (fun x hx => by
        obtain ⟨q, hq, rfl⟩ := List.mem_map.mp hx
        have := (c.lt r hm q hq).1
        rw [show pr q = .tup [.int q.1, .int q.2] from rfl]
        unfold cBody
        simp only [fnR, fnI, fin0, sSeq, sNil, sAsg, sAsgO, sPar, parE, slOf, sIf, sFor, sRet, sRetV, sRetN, sEx, sAug, augR, sAppend, sFrz, frzE, sSetFl, sDead, eC, eV, lookR, CC.e1, CC.e2, eBin, eNeg, eNot, eCmp, eChn, eAnd, eOr, eIf, aNil, aCons, pCons, rNil, rCons, eTup, eLst, eCell, eIx, oNo, oE, eSl, eRev, eAtt, eCall, eMk, eBt, eIsi, eIsc, eIndex, eComp, eLenset, tT, tNot, tAnd, tOr, tYes, gN, gNil, gCons, gT, iE, iK, iR1, iR2, iR3, iEnum, iEnumK, iZip, iZipK, itemsR, negR, revR, slR, kp_sh, kp_ow, okS, okO, Res.bind_ok, Res.bind_bad, truthR, binR, addR, subR, mulR, fdivR, modR, powR, cmpR, leR, ltR, isR, isNon, isiR, isTyp, tyIs, List.any, List.all, lenR, absR, minR, maxR, intR, boolR, listR, tupleR, List.set_cons_zero, List.set_cons_succ, List.getElem?_cons_zero, List.getElem?_cons_succ, List.length_cons, List.length_nil, List.map_cons, List.map_nil, List.replicate_zero, List.replicate_succ, List.cons_append, List.nil_append, List.append_nil, Nat.reduceAdd, Nat.reduceSub, Nat.reduceEqDiff, Nat.reduceMul, Nat.reduceLT, Nat.reduceLeDiff, Nat.zero_add, Option.bind_some, Option.map_some, if_true, if_false, ite_true, ite_false, reduceIte, reduceCtorEq, Bool.not_true, Bool.not_false, Bool.true_and, Bool.false_and, Bool.and_true, Bool.and_false, Bool.or_true, Bool.or_false, Bool.true_or, Bool.false_or, beq_self_eq_true, bne_self_eq_false, ne_eq, not_true_eq_false, not_false_eq_true, Option.some.injEq, Prod.mk.injEq, and_self, and_true, true_and, decide_true, decide_false, Bool.false_eq_true, hs, or_true, em, is_number_ok (i := (q.1 : Int)) (a := 0) (b := ((b * b : Nat) : Int) - 1) (by omega) (by omega)]) hz
      have a4 : eComp (eV false 6) (gT (gCons (gN 6) (gCons (gN 7) (gNil)))) (iE (eV true 4)) (tYes) [.ow (.obj c_Curve []), .sh (.int b), .sh (.lst (rows.map fun r => .lst (r.map pr))), .sh (.int (j : Nat)), .sh (.lst (r.map pr)), .no, .no, .no] S' = .ok (.ow, .lst ((r.map (·.1)).map nI)) S' := by
        refine comp_ok (xs := r.map pr) (S1 := S') (by simp only [fnR, fnI, fin0, sSeq, sNil, sAsg, sAsgO, sPar, parE, slOf, sIf, sFor, sRet, sRetV, sRetN, sEx, sAug, augR, sAppend, sFrz, frzE, sSetFl, sDead, eC, eV, lookR, CC.e1, CC.e2, eBin, eNeg, eNot, eCmp, eChn, eAnd, eOr, eIf, aNil, aCons, pCons, rNil, rCons, eTup, eLst, eCell, eIx, oNo, oE, eSl, eRev, eAtt, eCall, eMk, eBt, eIsi, eIsc, eIndex, eComp, eLenset, tT, tNot, tAnd, tOr, tYes, gN, gNil, gCons, gT, iE, iK, iR1, iR2, iR3, iEnum, iEnumK, iZip, iZipK, itemsR, negR, revR, slR, kp_sh, kp_ow, okS, okO, Res.bind_ok, Res.bind_bad, truthR, binR, addR, subR, mulR, fdivR, modR, powR, cmpR, leR, ltR, isR, isNon, isiR, isTyp, tyIs, List.any, List.all, lenR, absR, minR, maxR, intR, boolR, listR, tupleR, List.set_cons_zero, List.set_cons_succ, List.getElem?_cons_zero, List.getElem?_cons_succ, List.length_cons, List.length_nil, List.map_cons, List.map_nil, List.replicate_zero, List.replicate_succ, List.cons_append, List.nil_append, List.append_nil, Nat.reduceAdd, Nat.reduceSub, Nat.reduceEqDiff, Nat.reduceMul, Nat.reduceLT, Nat.reduceLeDiff, Nat.zero_add, Option.bind_some, Option.map_some, if_true, if_false, ite_true, ite_false, reduceIte, reduceCtorEq, Bool.not_true, Bool.not_false, Bool.true_and, Bool.false_and, Bool.and_true, Bool.and_false, Bool.or_true, Bool.or_false, Bool.true_or, Bool.false_or, beq_self_eq_true, bne_self_eq_false, ne_eq, not_true_eq_false, not_false_eq_true, Option.some.injEq, Prod.mk.injEq, and_self, and_true, true_and, decide_true, decide_false, Bool.false_eq_true]) ?_ hz
        rw [compL_map (fun d => match d with | .tup [x, _] => x | _ => .non)]
        · rw [List.map_map, List.map_map]; rfl
        · intro x hx
          obtain ⟨q, _, rfl⟩ := List.mem_map.mp hx
          rw [show pr q = .tup [.int q.1, .int q.2] from rfl]
          unfold cBody
          simp only [fnR, fnI, fin0, sSeq, sNil, sAsg, sAsgO, sPar, parE, slOf, sIf, sFor, sRet, sRetV, sRetN, sEx, sAug, augR, sAppend, sFrz, frzE, sSetFl, sDead, eC, eV, lookR, CC.e1, CC.e2, eBin, eNeg, eNot, eCmp, eChn, eAnd, eOr, eIf, aNil, aCons, pCons, rNil, rCons, eTup, eLst, eCell, eIx, oNo, oE, eSl, eRev, eAtt, eCall, eMk, eBt, eIsi, eIsc, eIndex, eComp, eLenset, tT, tNot, tAnd, tOr, tYes, gN, gNil, gCons, gT, iE, iK, iR1, iR2, iR3, iEnum, iEnumK, iZip, iZipK, itemsR, negR, revR, slR, kp_sh, kp_ow, okS, okO, Res.bind_ok, Res.bind_bad, truthR, binR, addR, subR, mulR, fdivR, modR, powR, cmpR, leR, ltR, isR, isNon, isiR, isTyp, tyIs, List.any, List.all, lenR, absR, minR, maxR, intR, boolR, listR, tupleR, List.set_cons_zero, List.set_cons_succ, List.getElem?_cons_zero, List.getElem?_cons_succ, List.length_cons, List.length_nil, List.map_cons, List.map_nil, List.replicate_zero, List.replicate_succ, List.cons_append, List.nil_append, List.append_nil, Nat.reduceAdd, Nat.reduceSub, Nat.reduceEqDiff, Nat.reduceMul, Nat.reduceLT, Nat.reduceLeDiff, Nat.zero_add, Option.bind_some, Option.map_some, if_true, if_false, ite_true, ite_false, reduceIte, reduceCtorEq, Bool.not_true, Bool.not_false, Bool.true_and, Bool.false_and, Bool.and_true, Bool.and_false, Bool.or_true, Bool.or_false, Bool.true_or, Bool.false_or, beq_self_eq_true, bne_self_eq_false, ne_eq, not_true_eq_false, not_false_eq_true, Option.some.injEq, Prod.mk.injEq, and_self, and_true, true_and, decide_true, decide_false, Bool.false_eq_true]
      have a5 : lensetR [.lst ((r.map (·.1)).map nI)] S' = .ok (.sh, .int ((b * b : Nat) : Int)) S' := by
        rw [lenset_ok _ (c.nd r hm) (by rw [List.length_map, hlen]; omega), List.length_map, hlen]
      refine sx (if_nx (S' := S') ?_) (sx (if_nx (S' := S') ?_) (sx (if_nx (S' := S') ?_) (sx (if_nx (S' := S') ?_) (sx (if_nx (S' := S') ?_) rfl))))
      · simp only [fnR, fnI, fin0, sSeq, sNil, sAsg, sAsgO, sPar, parE, slOf, sIf, sFor, sRet, sRetV, sRetN, sEx, sAug, augR, sAppend, sFrz, frzE, sSetFl, sDead, eC, eV, lookR, CC.e1, CC.e2, eBin, eNeg, eNot, eCmp, eChn, eAnd, eOr, eIf, aNil, aCons, pCons, rNil, rCons, eTup, eLst, eCell, eIx, oNo, oE, eSl, eRev, eAtt, eCall, eMk, eBt, eIsi, eIsc, eIndex, eComp, eLenset, tT, tNot, tAnd, tOr, tYes, gN, gNil, gCons, gT, iE, iK, iR1, iR2, iR3, iEnum, iEnumK, iZip, iZipK, itemsR, negR, revR, slR, kp_sh, kp_ow, okS, okO, Res.bind_ok, Res.bind_bad, truthR, binR, addR, subR, mulR, fdivR, modR, powR, cmpR, leR, ltR, isR, isNon, isiR, isTyp, tyIs, List.any, List.all, lenR, absR, minR, maxR, intR, boolR, listR, tupleR, List.set_cons_zero, List.set_cons_succ, List.getElem?_cons_zero, List.getElem?_cons_succ, List.length_cons, List.length_nil, List.map_cons, List.map_nil, List.replicate_zero, List.replicate_succ, List.cons_append, List.nil_append, List.append_nil, Nat.reduceAdd, Nat.reduceSub, Nat.reduceEqDiff, Nat.reduceMul, Nat.reduceLT, Nat.reduceLeDiff, Nat.zero_add, Option.bind_some, Option.map_some, if_true, if_false, ite_true, ite_false, reduceIte, reduceCtorEq, Bool.not_true, Bool.not_false, Bool.true_and, Bool.false_and, Bool.and_true, Bool.and_false, Bool.or_true, Bool.or_false, Bool.true_or, Bool.false_or, beq_self_eq_true, bne_self_eq_false, ne_eq, not_true_eq_false, not_false_eq_true, Option.some.injEq, Prod.mk.injEq, and_self, and_true, true_and, decide_true, decide_false, Bool.false_eq_true, is_row_lst, hL, hs, or_true, em, eq_int]
      · unfold tNot; rw [a1]; rfl
      · unfold tNot; rw [a2]; rfl
      · unfold tNot; rw [a3]; rfl
      · unfold tT eCmp eLenset CC.e1
        simp only [a4, Res.bind_ok, a5]
        simp only [fnR, fnI, fin0, sSeq, sNil, sAsg, sAsgO, sPar, parE, slOf, sIf, sFor, sRet, sRetV, sRetN, sEx, sAug, augR, sAppend, sFrz, frzE, sSetFl, sDead, eC, eV, lookR, CC.e1, CC.e2, eBin, eNeg, eNot, eCmp, eChn, eAnd, eOr, eIf, aNil, aCons, pCons, rNil, rCons, eTup, eLst, eCell, eIx, oNo, oE, eSl, eRev, eAtt, eCall, eMk, eBt, eIsi, eIsc, eIndex, eComp, eLenset, tT, tNot, tAnd, tOr, tYes, gN, gNil, gCons, gT, iE, iK, iR1, iR2, iR3, iEnum, iEnumK, iZip, iZipK, itemsR, negR, revR, slR, kp_sh, kp_ow, okS, okO, Res.bind_ok, Res.bind_bad, truthR, binR, addR, subR, mulR, fdivR, modR, powR, cmpR, leR, ltR, isR, isNon, isiR, isTyp, tyIs, List.any, List.all, lenR, absR, minR, maxR, intR, boolR, listR, tupleR, List.set_cons_zero, List.set_cons_succ, List.getElem?_cons_zero, List.getElem?_cons_succ, List.length_cons, List.length_nil, List.map_cons, List.map_nil, List.replicate_zero, List.replicate_succ, List.cons_append, List.nil_append, List.append_nil, Nat.reduceAdd, Nat.reduceSub, Nat.reduceEqDiff, Nat.reduceMul, Nat.reduceLT, Nat.reduceLeDiff, Nat.zero_add, Option.bind_some, Option.map_some, if_true, if_false, ite_true, ite_false, reduceIte, reduceCtorEq, Bool.not_true, Bool.not_false, Bool.true_and, Bool.false_and, Bool.and_true, Bool.and_false, Bool.or_true, Bool.or_false, Bool.true_or, Bool.false_or, beq_self_eq_true, bne_self_eq_false, ne_eq, not_true_eq_false, not_false_eq_true, Option.some.injEq, Prod.mk.injEq, and_self, and_true, true_and, decide_true, decide_false, Bool.false_eq_true, hs, or_true, em, Int.lt_irrefl])
    exact ⟨x, y, h⟩
  obtain ⟨x, y, hl⟩ := hloop
  have hz : (rows.map fun r => D.lst (r.map pr)).length ≤ szLine := szl _ (by rw [List.length_map]; omega)
  have hR : (((rows.map fun r => D.lst (r.map pr)).length : Nat) : Int) = (rows.length : Int) := by rw [List.length_map]
  have cmpR' : eComp (eBt tupleR (pCons (eV true 4) (aNil))) (gN 4) (iE (eV true 2)) (tYes) [.ow (.obj c_Curve [.int b]), .sh (.int b), .sh (.lst (rows.map fun r => .lst (r.map pr))), x, y, .no, .no, .no] S = .ok (.ow, .lst (rows.map fun r => .tup (r.map pr))) S := by
    refine comp_ok (xs := rows.map fun r => .lst (r.map pr)) (S1 := S) (by simp only [fnR, fnI, fin0, sSeq, sNil, sAsg, sAsgO, sPar, parE, slOf, sIf, sFor, sRet, sRetV, sRetN, sEx, sAug, augR, sAppend, sFrz, frzE, sSetFl, sDead, eC, eV, lookR, CC.e1, CC.e2, eBin, eNeg, eNot, eCmp, eChn, eAnd, eOr, eIf, aNil, aCons, pCons, rNil, rCons, eTup, eLst, eCell, eIx, oNo, oE, eSl, eRev, eAtt, eCall, eMk, eBt, eIsi, eIsc, eIndex, eComp, eLenset, tT, tNot, tAnd, tOr, tYes, gN, gNil, gCons, gT, iE, iK, iR1, iR2, iR3, iEnum, iEnumK, iZip, iZipK, itemsR, negR, revR, slR, kp_sh, kp_ow, okS, okO, Res.bind_ok, Res.bind_bad, truthR, binR, addR, subR, mulR, fdivR, modR, powR, cmpR, leR, ltR, isR, isNon, isiR, isTyp, tyIs, List.any, List.all, lenR, absR, minR, maxR, intR, boolR, listR, tupleR, List.set_cons_zero, List.set_cons_succ, List.getElem?_cons_zero, List.getElem?_cons_succ, List.length_cons, List.length_nil, List.map_cons, List.map_nil, List.replicate_zero, List.replicate_succ, List.cons_append, List.nil_append, List.append_nil, Nat.reduceAdd, Nat.reduceSub, Nat.reduceEqDiff, Nat.reduceMul, Nat.reduceLT, Nat.reduceLeDiff, Nat.zero_add, Option.bind_some, Option.map_some, if_true, if_false, ite_true, ite_false, reduceIte, reduceCtorEq, Bool.not_true, Bool.not_false, Bool.true_and, Bool.false_and, Bool.and_true, Bool.and_false, Bool.or_true, Bool.or_false, Bool.true_or, Bool.false_or, beq_self_eq_true, bne_self_eq_false, ne_eq, not_true_eq_false, not_false_eq_true, Option.some.injEq, Prod.mk.injEq, and_self, and_true, true_and, decide_true, decide_false, Bool.false_eq_true]) ?_ hz
    rw [compL_map (fun d => match d with | .lst xs => .tup xs | _ => .non)]
    · rw [List.map_map]; rfl
    · intro x hx
      obtain ⟨q, _, rfl⟩ := List.mem_map.mp hx
      unfold cBody
      simp only [fnR, fnI, fin0, sSeq, sNil, sAsg, sAsgO, sPar, parE, slOf, sIf, sFor, sRet, sRetV, sRetN, sEx, sAug, augR, sAppend, sFrz, frzE, sSetFl, sDead, eC, eV, lookR, CC.e1, CC.e2, eBin, eNeg, eNot, eCmp, eChn, eAnd, eOr, eIf, aNil, aCons, pCons, rNil, rCons, eTup, eLst, eCell, eIx, oNo, oE, eSl, eRev, eAtt, eCall, eMk, eBt, eIsi, eIsc, eIndex, eComp, eLenset, tT, tNot, tAnd, tOr, tYes, gN, gNil, gCons, gT, iE, iK, iR1, iR2, iR3, iEnum, iEnumK, iZip, iZipK, itemsR, negR, revR, slR, kp_sh, kp_ow, okS, okO, Res.bind_ok, Res.bind_bad, truthR, binR, addR, subR, mulR, fdivR, modR, powR, cmpR, leR, ltR, isR, isNon, isiR, isTyp, tyIs, List.any, List.all, lenR, absR, minR, maxR, intR, boolR, listR, tupleR, List.set_cons_zero, List.set_cons_succ, List.getElem?_cons_zero, List.getElem?_cons_succ, List.length_cons, List.length_nil, List.map_cons, List.map_nil, List.replicate_zero, List.replicate_succ, List.cons_append, List.nil_append, List.append_nil, Nat.reduceAdd, Nat.reduceSub, Nat.reduceEqDiff, Nat.reduceMul, Nat.reduceLT, Nat.reduceLeDiff, Nat.zero_add, Option.bind_some, Option.map_some, if_true, if_false, ite_true, ite_false, reduceIte, reduceCtorEq, Bool.not_true, Bool.not_false, Bool.true_and, Bool.false_and, Bool.and_true, Bool.and_false, Bool.or_true, Bool.or_false, Bool.true_or, Bool.false_or, beq_self_eq_true, bne_self_eq_false, ne_eq, not_true_eq_false, not_false_eq_true, Option.some.injEq, Prod.mk.injEq, and_self, and_true, true_and, decide_true, decide_false, Bool.false_eq_true]
  have pl0 : place n_base (flds c_Curve) = some 0 := rfl
  have pl1 : place n_rows (flds c_Curve) = some 1 := rfl
  unfold F_Curve___init__ fnI
  rw [if_pos (show [D.int b, D.lst (rows.map fun r => D.lst (r.map pr))].length + 1 = 3 from rfl)]
  have key : B_Curve___init__ ([.ow (.obj c_Curve []), .sh (.int b), .sh (.lst (rows.map fun r => .lst (r.map pr))), .no, .no, .no, .no, .no]) S = .ok (.nx [.ow (cvD b rows), .sh (.int b), .sh (.lst (rows.map fun r => .lst (r.map pr))), x, y, .no, .no, .no]) S := by
    unfold B_Curve___init__
    refine sx (if_nx (S' := S) ?_) (sx (if_nx (S' := S) ?_) (sx (for_sx (xs := enumD (rows.map fun r => .lst (r.map pr))) (S1 := S) ?_ hl) (sx (ρ' := [.ow (.obj c_Curve [.int b]), .sh (.int b), .sh (.lst (rows.map fun r => .lst (r.map pr))), x, y, .no, .no, .no]) (S' := S) ?_ (sx (ρ' := [.ow (cvD b rows), .sh (.int b), .sh (.lst (rows.map fun r => .lst (r.map pr))), x, y, .no, .no, .no]) (S' := S) ?_ rfl))))
    · simp only [fnR, fnI, fin0, sSeq, sNil, sAsg, sAsgO, sPar, parE, slOf, sIf, sFor, sRet, sRetV, sRetN, sEx, sAug, augR, sAppend, sFrz, frzE, sSetFl, sDead, eC, eV, lookR, CC.e1, CC.e2, eBin, eNeg, eNot, eCmp, eChn, eAnd, eOr, eIf, aNil, aCons, pCons, rNil, rCons, eTup, eLst, eCell, eIx, oNo, oE, eSl, eRev, eAtt, eCall, eMk, eBt, eIsi, eIsc, eIndex, eComp, eLenset, tT, tNot, tAnd, tOr, tYes, gN, gNil, gCons, gT, iE, iK, iR1, iR2, iR3, iEnum, iEnumK, iZip, iZipK, itemsR, negR, revR, slR, kp_sh, kp_ow, okS, okO, Res.bind_ok, Res.bind_bad, truthR, binR, addR, subR, mulR, fdivR, modR, powR, cmpR, leR, ltR, isR, isNon, isiR, isTyp, tyIs, List.any, List.all, lenR, absR, minR, maxR, intR, boolR, listR, tupleR, List.set_cons_zero, List.set_cons_succ, List.getElem?_cons_zero, List.getElem?_cons_succ, List.length_cons, List.length_nil, List.map_cons, List.map_nil, List.replicate_zero, List.replicate_succ, List.cons_append, List.nil_append, List.append_nil, Nat.reduceAdd, Nat.reduceSub, Nat.reduceEqDiff, Nat.reduceMul, Nat.reduceLT, Nat.reduceLeDiff, Nat.zero_add, Option.bind_some, Option.map_some, if_true, if_false, ite_true, ite_false, reduceIte, reduceCtorEq, Bool.not_true, Bool.not_false, Bool.true_and, Bool.false_and, Bool.and_true, Bool.and_false, Bool.or_true, Bool.or_false, Bool.true_or, Bool.false_or, beq_self_eq_true, bne_self_eq_false, ne_eq, not_true_eq_false, not_false_eq_true, Option.some.injEq, Prod.mk.injEq, and_self, and_true, true_and, decide_true, decide_false, Bool.false_eq_true, is_number_ok hb23.1 hb23.2]
    · simp only [fnR, fnI, fin0, sSeq, sNil, sAsg, sAsgO, sPar, parE, slOf, sIf, sFor, sRet, sRetV, sRetN, sEx, sAug, augR, sAppend, sFrz, frzE, sSetFl, sDead, eC, eV, lookR, CC.e1, CC.e2, eBin, eNeg, eNot, eCmp, eChn, eAnd, eOr, eIf, aNil, aCons, pCons, rNil, rCons, eTup, eLst, eCell, eIx, oNo, oE, eSl, eRev, eAtt, eCall, eMk, eBt, eIsi, eIsc, eIndex, eComp, eLenset, tT, tNot, tAnd, tOr, tYes, gN, gNil, gCons, gT, iE, iK, iR1, iR2, iR3, iEnum, iEnumK, iZip, iZipK, itemsR, negR, revR, slR, kp_sh, kp_ow, okS, okO, Res.bind_ok, Res.bind_bad, truthR, binR, addR, subR, mulR, fdivR, modR, powR, cmpR, leR, ltR, isR, isNon, isiR, isTyp, tyIs, List.any, List.all, lenR, absR, minR, maxR, intR, boolR, listR, tupleR, List.set_cons_zero, List.set_cons_succ, List.getElem?_cons_zero, List.getElem?_cons_succ, List.length_cons, List.length_nil, List.map_cons, List.map_nil, List.replicate_zero, List.replicate_succ, List.cons_append, List.nil_append, List.append_nil, Nat.reduceAdd, Nat.reduceSub, Nat.reduceEqDiff, Nat.reduceMul, Nat.reduceLT, Nat.reduceLeDiff, Nat.zero_add, Option.bind_some, Option.map_some, if_true, if_false, ite_true, ite_false, reduceIte, reduceCtorEq, Bool.not_true, Bool.not_false, Bool.true_and, Bool.false_and, Bool.and_true, Bool.and_false, Bool.or_true, Bool.or_false, Bool.true_or, Bool.false_or, beq_self_eq_true, bne_self_eq_false, ne_eq, not_true_eq_false, not_false_eq_true, Option.some.injEq, Prod.mk.injEq, and_self, and_true, true_and, decide_true, decide_false, Bool.false_eq_true, is_row_lst, hR, show (1 : Int) ≤ rows.length from by omega, show (rows.length : Int) ≤ 16 from by omega]
    · simp only [fnR, fnI, fin0, sSeq, sNil, sAsg, sAsgO, sPar, parE, slOf, sIf, sFor, sRet, sRetV, sRetN, sEx, sAug, augR, sAppend, sFrz, frzE, sSetFl, sDead, eC, eV, lookR, CC.e1, CC.e2, eBin, eNeg, eNot, eCmp, eChn, eAnd, eOr, eIf, aNil, aCons, pCons, rNil, rCons, eTup, eLst, eCell, eIx, oNo, oE, eSl, eRev, eAtt, eCall, eMk, eBt, eIsi, eIsc, eIndex, eComp, eLenset, tT, tNot, tAnd, tOr, tYes, gN, gNil, gCons, gT, iE, iK, iR1, iR2, iR3, iEnum, iEnumK, iZip, iZipK, itemsR, negR, revR, slR, kp_sh, kp_ow, okS, okO, Res.bind_ok, Res.bind_bad, truthR, binR, addR, subR, mulR, fdivR, modR, powR, cmpR, leR, ltR, isR, isNon, isiR, isTyp, tyIs, List.any, List.all, lenR, absR, minR, maxR, intR, boolR, listR, tupleR, List.set_cons_zero, List.set_cons_succ, List.getElem?_cons_zero, List.getElem?_cons_succ, List.length_cons, List.length_nil, List.map_cons, List.map_nil, List.replicate_zero, List.replicate_succ, List.cons_append, List.nil_append, List.append_nil, Nat.reduceAdd, Nat.reduceSub, Nat.reduceEqDiff, Nat.reduceMul, Nat.reduceLT, Nat.reduceLeDiff, Nat.zero_add, Option.bind_some, Option.map_some, if_true, if_false, ite_true, ite_false, reduceIte, reduceCtorEq, Bool.not_true, Bool.not_false, Bool.true_and, Bool.false_and, Bool.and_true, Bool.and_false, Bool.or_true, Bool.or_false, Bool.true_or, Bool.false_or, beq_self_eq_true, bne_self_eq_false, ne_eq, not_true_eq_false, not_false_eq_true, Option.some.injEq, Prod.mk.injEq, and_self, and_true, true_and, decide_true, decide_false, Bool.false_eq_true]
    · simp only [fnR, fnI, fin0, sSeq, sNil, sAsg, sAsgO, sPar, parE, slOf, sIf, sFor, sRet, sRetV, sRetN, sEx, sAug, augR, sAppend, sFrz, frzE, sSetFl, sDead, eC, eV, lookR, CC.e1, CC.e2, eBin, eNeg, eNot, eCmp, eChn, eAnd, eOr, eIf, aNil, aCons, pCons, rNil, rCons, eTup, eLst, eCell, eIx, oNo, oE, eSl, eRev, eAtt, eCall, eMk, eBt, eIsi, eIsc, eIndex, eComp, eLenset, tT, tNot, tAnd, tOr, tYes, gN, gNil, gCons, gT, iE, iK, iR1, iR2, iR3, iEnum, iEnumK, iZip, iZipK, itemsR, negR, revR, slR, kp_sh, kp_ow, okS, okO, Res.bind_ok, Res.bind_bad, truthR, binR, addR, subR, mulR, fdivR, modR, powR, cmpR, leR, ltR, isR, isNon, isiR, isTyp, tyIs, List.any, List.all, lenR, absR, minR, maxR, intR, boolR, listR, tupleR, List.set_cons_zero, List.set_cons_succ, List.getElem?_cons_zero, List.getElem?_cons_succ, List.length_cons, List.length_nil, List.map_cons, List.map_nil, List.replicate_zero, List.replicate_succ, List.cons_append, List.nil_append, List.append_nil, Nat.reduceAdd, Nat.reduceSub, Nat.reduceEqDiff, Nat.reduceMul, Nat.reduceLT, Nat.reduceLeDiff, Nat.zero_add, Option.bind_some, Option.map_some, if_true, if_false, ite_true, ite_false, reduceIte, reduceCtorEq, Bool.not_true, Bool.not_false, Bool.true_and, Bool.false_and, Bool.and_true, Bool.and_false, Bool.or_true, Bool.or_false, Bool.true_or, Bool.false_or, beq_self_eq_true, bne_self_eq_false, ne_eq, not_true_eq_false, not_false_eq_true, Option.some.injEq, Prod.mk.injEq, and_self, and_true, true_and, decide_true, decide_false, Bool.false_eq_true, pl0, Nat.lt_irrefl, false_and]
    · unfold sSetFl
      simp only [List.getElem?_cons_zero, eBt, pCons, aNil, cmpR', Res.bind_ok]
      simp only [fnR, fnI, fin0, sSeq, sNil, sAsg, sAsgO, sPar, parE, slOf, sIf, sFor, sRet, sRetV, sRetN, sEx, sAug, augR, sAppend, sFrz, frzE, sSetFl, sDead, eC, eV, lookR, CC.e1, CC.e2, eBin, eNeg, eNot, eCmp, eChn, eAnd, eOr, eIf, aNil, aCons, pCons, rNil, rCons, eTup, eLst, eCell, eIx, oNo, oE, eSl, eRev, eAtt, eCall, eMk, eBt, eIsi, eIsc, eIndex, eComp, eLenset, tT, tNot, tAnd, tOr, tYes, gN, gNil, gCons, gT, iE, iK, iR1, iR2, iR3, iEnum, iEnumK, iZip, iZipK, itemsR, negR, revR, slR, kp_sh, kp_ow, okS, okO, Res.bind_ok, Res.bind_bad, truthR, binR, addR, subR, mulR, fdivR, modR, powR, cmpR, leR, ltR, isR, isNon, isiR, isTyp, tyIs, List.any, List.all, lenR, absR, minR, maxR, intR, boolR, listR, tupleR, List.set_cons_zero, List.set_cons_succ, List.getElem?_cons_zero, List.getElem?_cons_succ, List.length_cons, List.length_nil, List.map_cons, List.map_nil, List.replicate_zero, List.replicate_succ, List.cons_append, List.nil_append, List.append_nil, Nat.reduceAdd, Nat.reduceSub, Nat.reduceEqDiff, Nat.reduceMul, Nat.reduceLT, Nat.reduceLeDiff, Nat.zero_add, Option.bind_some, Option.map_some, if_true, if_false, ite_true, ite_false, reduceIte, reduceCtorEq, Bool.not_true, Bool.not_false, Bool.true_and, Bool.false_and, Bool.and_true, Bool.and_false, Bool.or_true, Bool.or_false, Bool.true_or, Bool.false_or, beq_self_eq_true, bne_self_eq_false, ne_eq, not_true_eq_false, not_false_eq_true, Option.some.injEq, Prod.mk.injEq, and_self, and_true, true_and, decide_true, decide_false, Bool.false_eq_true, pl1, Nat.lt_irrefl, false_and]
      simp [cvD]
  show ((B_Curve___init__ ([.ow (.obj c_Curve []), .sh (.int b), .sh (.lst (rows.map fun r => .lst (r.map pr))), .no, .no, .no, .no, .no]) S).bind _) = _
  rw [key]
  rfl
theorem built_ok {b : Nat} {rows : Rows} (c : Cv b rows) (S : Sto) : F__law_built [toldD b rows] S = .ok (.ow, cvD b rows) S := by
  simp only [fnR, fnI, fin0, sSeq, sNil, sAsg, sAsgO, sPar, parE, slOf, sIf, sFor, sRet, sRetV, sRetN, sEx, sAug, augR, sAppend, sFrz, frzE, sSetFl, sDead, eC, eV, lookR, CC.e1, CC.e2, eBin, eNeg, eNot, eCmp, eChn, eAnd, eOr, eIf, aNil, aCons, pCons, rNil, rCons, eTup, eLst, eCell, eIx, oNo, oE, eSl, eRev, eAtt, eCall, eMk, eBt, eIsi, eIsc, eIndex, eComp, eLenset, tT, tNot, tAnd, tOr, tYes, gN, gNil, gCons, gT, iE, iK, iR1, iR2, iR3, iEnum, iEnumK, iZip, iZipK, itemsR, negR, revR, slR, kp_sh, kp_ow, okS, okO, Res.bind_ok, Res.bind_bad, truthR, binR, addR, subR, mulR, fdivR, modR, powR, cmpR, leR, ltR, isR, isNon, isiR, isTyp, tyIs, List.any, List.all, lenR, absR, minR, maxR, intR, boolR, listR, tupleR, List.set_cons_zero, List.set_cons_succ, List.getElem?_cons_zero, List.getElem?_cons_succ, List.length_cons, List.length_nil, List.map_cons, List.map_nil, List.replicate_zero, List.replicate_succ, List.cons_append, List.nil_append, List.append_nil, Nat.reduceAdd, Nat.reduceSub, Nat.reduceEqDiff, Nat.reduceMul, Nat.reduceLT, Nat.reduceLeDiff, Nat.zero_add, Option.bind_some, Option.map_some, if_true, if_false, ite_true, ite_false, reduceIte, reduceCtorEq, Bool.not_true, Bool.not_false, Bool.true_and, Bool.false_and, Bool.and_true, Bool.and_false, Bool.or_true, Bool.or_false, Bool.true_or, Bool.false_or, beq_self_eq_true, bne_self_eq_false, ne_eq, not_true_eq_false, not_false_eq_true, Option.some.injEq, Prod.mk.injEq, and_self, and_true, true_and, decide_true, decide_false, Bool.false_eq_true, F__law_built, B__law_built, toldD, ix_tup0, ix_tup1, init_ok c]
end CC.K26
end

section
namespace CC.K26
open CC PySem
/-! ### all numbers of a small level -/
theorem flatMap_get {α β : Type} (f : α → List β) (m : Nat) (hm : 0 < m) (hf : ∀ a, (f a).length = m) : ∀ (xs : List α) (i : Nat), (xs.flatMap f)[i]? = (xs[i / m]?).bind fun x => (f x)[i % m]?
  | [], i => by simp
  | x :: xs, i => by
    rw [List.flatMap_cons]
    by_cases h : i < m
    · rw [List.getElem?_append_left (by rw [hf]; exact h), Nat.div_eq_of_lt h, Nat.mod_eq_of_lt h]
      simp
    · rw [List.getElem?_append_right (by rw [hf]; omega), hf, flatMap_get f m hm hf xs (i - m)]
      have h1 : i / m = (i - m) / m + 1 := by
        rw [show i = (i - m) + m by omega, Nat.add_div_right _ hm]; simp
      have h2 : i % m = (i - m) % m := by
        rw [Nat.mod_eq_sub_mod (by omega)]
      rw [h1, h2, List.getElem?_cons_succ]
def pss (B : Nat) : Nat → List (List Nat)
  | 0 => [[]]
  | l + 1 => (pss B l).flatMap fun ps => (List.range B).map fun p => ps ++ [p]
theorem pss_get {B : Nat} (hB : 0 < B) : ∀ (l i : Nat) (ps : List Nat), (pss B l)[i]? = some ps → num B ps = i ∧ ps.length = l ∧ ∀ p ∈ ps, p < B
  | 0, i, ps, h => by
    cases i with
    | zero => cases h; exact ⟨rfl, rfl, by simp⟩
    | succ i => simp [pss] at h
  | l + 1, i, ps, h => by
    unfold pss at h
    rw [flatMap_get _ B hB (fun a => by simp)] at h
    obtain ⟨qs, h1, h2⟩ := Option.bind_eq_some_iff.mp h
    have hlt : i % B < B := Nat.mod_lt _ hB
    rw [List.getElem?_map, List.getElem?_range hlt] at h2
    cases h2
    obtain ⟨a1, a2, a3⟩ := pss_get hB l _ _ h1
    refine ⟨by rw [num_snoc, a1, Nat.mul_comm]; exact Nat.div_add_mod i B, by rw [List.length_append, a2]; rfl, fun p hp => ?_⟩
    rcases List.mem_append.mp hp with hp | hp
    · exact a3 p hp
    · rw [List.mem_singleton.mp hp]; exact hlt
theorem pss_len {B : Nat} : ∀ l : Nat, (pss B l).length = B ^ l
  | 0 => rfl
  | l + 1 => by
    unfold pss
    have : ∀ xs : List (List Nat), (xs.flatMap fun ps => (List.range B).map fun p => ps ++ [p]).length = xs.length * B := by
      intro xs
      induction xs with
      | nil => simp
      | cons x xs ih => rw [List.flatMap_cons, List.length_append, ih, List.length_cons, Nat.add_mul]; simp; omega
    rw [this, pss_len l, Nat.pow_succ]
def ent (b : Nat) (rows : Rows) (ps : List Nat) : D := .tup [nI (cels b rows ps).2.1, nI (cels b rows ps).2.2, nI (stp rows ps), .tup (ps.map nI)]
theorem compL_idx {f : D → Sto → Res (Option D)} {S : Sto} : ∀ (xs ys : List D), ys.length = xs.length → (∀ (i : Nat) (d : D), xs[i]? = some d → ∃ y, ys[i]? = some y ∧ f d S = .ok (some y) S) → compL f xs S = .ok ys S
  | [], [], _, _ => rfl
  | [], _ :: _, h, _ => by cases h
  | _ :: _, [], h, _ => by cases h
  | x :: xs, y :: ys, hl, h => by
    obtain ⟨y', h1, h2⟩ := h 0 x rfl
    cases h1
    rw [compL, h2]
    simp only [Res.bind_ok]
    rw [compL_idx xs ys (by simpa using hl) fun i d hd => by simpa using h (i + 1) d (by simpa using hd)]
    rfl
theorem numbered_ok {b : Nat} {rows : Rows} (c : Cv b rows) (L : Nat) (hL : L ≤ 2) (S : Sto) : F__law_numbered [toldD b rows, .int (L : Nat)] S = .ok (.sh, .lst ((pss (b * b) L).map (ent b rows))) S := by
  have hb := c.b10
  have hs : Small (b : Int) := small_nat (by omega)
  have hB : (0 : Int) < (b : Int) := by omega
  have hD : DivOk (b : Int) := divOk_lit (by omega) (by omega)
  have hr : Rng62 (L : Int) := rng62 (by omega)
  have hbig : ∀ k, k ≤ 2 → (b * b) ^ (k + 1) ≤ 729 := fun k hk => by
    have h1 : b * b ≤ 9 := by omega
    calc (b * b) ^ (k + 1) ≤ 9 ^ (k + 1) := Nat.pow_le_pow_left h1 _
      _ ≤ 9 ^ 3 := Nat.pow_le_pow_right (by decide) (by omega)
      _ = 729 := rfl
  let tl : D := .lst (rows.map fun r => .lst (r.map pr))
  have inner : ∀ (k : Nat), k < L → ∀ (t x y s p : Sl), ∃ (x' y' s' p' : Sl), forL (gT (gCons (gN 7) (gCons (gN 8) (gCons (gN 9) (gCons (gN 10) (gNil)))))) (sSeq (sAsg (gN 6) (eBin .add (eV true 6) (eComp (eTup (aCons (eBin .add (eBin .mul (eV true 7) (eV true 2)) (eBin .mod (eV true 12) (eV true 2))) (aCons (eBin .add (eBin .mul (eV true 8) (eV true 2)) (eBin .fdiv (eV true 12) (eV true 2))) (aCons (eV false 13) (aCons (eBin .add (eV true 10) (eTup (aCons (eV false 11) (aNil)))) (aNil)))))) (gT (gCons (gN 11) (gCons (gT (gCons (gN 12) (gCons (gN 13) (gNil)))) (gNil)))) (iEnum (eIx (eV true 3) (eV true 9))) (tYes)))) (sNil)) ((pss (b * b) k).map (ent b rows))
      [.sh (toldD b rows), .sh (.int (L : Nat)), .sh (.int b), .sh tl, .sh (.lst ((pss (b * b) k).map (ent b rows))), t, .sh (.lst []), x, y, s, p, .no, .no, .no] S =
      .ok (.nx [.sh (toldD b rows), .sh (.int (L : Nat)), .sh (.int b), .sh tl, .sh (.lst ((pss (b * b) k).map (ent b rows))), t, .sh (.lst ((pss (b * b) (k + 1)).map (ent b rows))), x', y', s', p', .no, .no, .no]) S := by
    intro k hk t x y s p
    obtain ⟨ρ', S', h, x', y', s', p', rfl, rfl⟩ := forL_inv (g := gT (gCons (gN 7) (gCons (gN 8) (gCons (gN 9) (gCons (gN 10) (gNil)))))) (body := sSeq (sAsg (gN 6) (eBin .add (eV true 6) (eComp (eTup (aCons (eBin .add (eBin .mul (eV true 7) (eV true 2)) (eBin .mod (eV true 12) (eV true 2))) (aCons (eBin .add (eBin .mul (eV true 8) (eV true 2)) (eBin .fdiv (eV true 12) (eV true 2))) (aCons (eV false 13) (aCons (eBin .add (eV true 10) (eTup (aCons (eV false 11) (aNil)))) (aNil)))))) (gT (gCons (gN 11) (gCons (gT (gCons (gN 12) (gCons (gN 13) (gNil)))) (gNil)))) (iEnum (eIx (eV true 3) (eV true 9))) (tYes)))) (sNil))
      (fun j ρ S' => ∃ (x y s p : Sl), ρ = [.sh (toldD b rows), .sh (.int (L : Nat)), .sh (.int b), .sh tl, .sh (.lst ((pss (b * b) k).map (ent b rows))), t, .sh (.lst ((((pss (b * b) k).take j).flatMap fun ps => (List.range (b * b)).map fun p => ps ++ [p]).map (ent b rows))), x, y, s, p, .no, .no, .no] ∧ S' = S)
      ((pss (b * b) k).map (ent b rows)) [.sh (toldD b rows), .sh (.int (L : Nat)), .sh (.int b), .sh tl, .sh (.lst ((pss (b * b) k).map (ent b rows))), t, .sh (.lst []), x, y, s, p, .no, .no, .no] S ⟨x, y, s, p, rfl, rfl⟩ (by
      rintro j d ρ S' hj ⟨x, y, s, p, rfl, rfl⟩
      rw [List.getElem?_map] at hj
      obtain ⟨ps, hps, rfl⟩ := Option.map_eq_some_iff.mp hj
      obtain ⟨_, hpl, hpB⟩ := pss_get hb.2.2.2 k j ps hps
      have hst := stp_lt c hpB
      have hrow : rows[stp rows ps]? = some rows[stp rows ps] := List.getElem?_eq_getElem hst
      have hm : rows[stp rows ps] ∈ rows := List.getElem_mem hst
      have hlen := c.len _ hm
      have hix : ixR tl (.int (stp rows ps : Nat)) S' = .ok (.sh, .lst (rows[stp rows ps].map pr)) S' := ix_lst (by rw [List.getElem?_map, hrow]; rfl) S'
      have tk : (pss (b * b) k).take (j + 1) = (pss (b * b) k).take j ++ [ps] := take_succ_of hps
      have hj2 : j < (pss (b * b) k).length := (List.getElem?_eq_some_iff.mp hps).1
      have hlen2 : ∀ xs : List (List Nat), (xs.flatMap fun ps => (List.range (b * b)).map fun p => ps ++ [p]).length = xs.length * (b * b) := by
        intro xs
        induction xs with
        | nil => simp
        | cons x xs ih => rw [List.flatMap_cons, List.length_append, ih, List.length_cons, Nat.add_mul]; simp; omega
      have hcomp : eComp (eTup (aCons (eBin .add (eBin .mul (eV true 7) (eV true 2)) (eBin .mod (eV true 12) (eV true 2))) (aCons (eBin .add (eBin .mul (eV true 8) (eV true 2)) (eBin .fdiv (eV true 12) (eV true 2))) (aCons (eV false 13) (aCons (eBin .add (eV true 10) (eTup (aCons (eV false 11) (aNil)))) (aNil)))))) (gT (gCons (gN 11) (gCons (gT (gCons (gN 12) (gCons (gN 13) (gNil)))) (gNil)))) (iEnum (eIx (eV true 3) (eV true 9))) (tYes) [.sh (toldD b rows), .sh (.int (L : Nat)), .sh (.int b), .sh tl, .sh (.lst ((pss (b * b) k).map (ent b rows))), t, .sh (.lst ((((pss (b * b) k).take j).flatMap fun ps => (List.range (b * b)).map fun p => ps ++ [p]).map (ent b rows))), .sh (.int ((cels b rows ps).2.1 : Nat)), .sh (.int ((cels b rows ps).2.2 : Nat)), .sh (.int (stp rows ps : Nat)), .sh (.tup (ps.map nI)), .no, .no, .no] S' =
          .ok (.ow, .lst (((List.range (b * b)).map fun p => ps ++ [p]).map (ent b rows))) S' := by
        refine comp_ok (xs := enumD (rows[stp rows ps].map pr)) (S1 := S') ?_ (compL_idx _ _ (by rw [enumD_len]; simp [hlen]) ?_) (szl _ (by rw [enumD_len, List.length_map, hlen]; omega))
        · simp only [fnR, fnI, fin0, sSeq, sNil, sAsg, sAsgO, sPar, parE, slOf, sIf, sFor, sRet, sRetV, sRetN, sEx, sAug, augR, sAppend, sFrz, frzE, sSetFl, sDead, eC, eV, lookR, CC.e1, CC.e2, eBin, eNeg, eNot, eCmp, eChn, eAnd, eOr, eIf, aNil, aCons, pCons, rNil, rCons, eTup, eLst, eCell, eIx, oNo, oE, eSl, eRev, eAtt, eCall, eMk, eBt, eIsi, eIsc, eIndex, eComp, eLenset, tT, tNot, tAnd, tOr, tYes, gN, gNil, gCons, gT, iE, iK, iR1, iR2, iR3, iEnum, iEnumK, iZip, iZipK, itemsR, negR, revR, slR, kp_sh, kp_ow, okS, okO, Res.bind_ok, Res.bind_bad, truthR, binR, addR, subR, mulR, fdivR, modR, powR, cmpR, leR, ltR, isR, isNon, isiR, isTyp, tyIs, List.any, List.all, lenR, absR, minR, maxR, intR, boolR, listR, tupleR, List.set_cons_zero, List.set_cons_succ, List.getElem?_cons_zero, List.getElem?_cons_succ, List.length_cons, List.length_nil, List.map_cons, List.map_nil, List.replicate_zero, List.replicate_succ, List.cons_append, List.nil_append, List.append_nil, Nat.reduceAdd, Nat.reduceSub, Nat.reduceEqDiff, Nat.reduceMul, Nat.reduceLT, Nat.reduceLeDiff, Nat.zero_add, Option.bind_some, Option.map_some, if_true, if_false, ite_true, ite_false, reduceIte, reduceCtorEq, Bool.not_true, Bool.not_false, Bool.true_and, Bool.false_and, Bool.and_true, Bool.and_false, Bool.or_true, Bool.or_false, Bool.true_or, Bool.false_or, beq_self_eq_true, bne_self_eq_false, ne_eq, not_true_eq_false, not_false_eq_true, Option.some.injEq, Prod.mk.injEq, and_self, and_true, true_and, decide_true, decide_false, Bool.false_eq_true, hix]
        · intro i d hd
          obtain ⟨x, hx, rfl⟩ := enumD_get hd
          rw [List.getElem?_map] at hx
          obtain ⟨q, hq, rfl⟩ := Option.map_eq_some_iff.mp hx
          have hi : i < b * b := by rw [← hlen]; exact (List.getElem?_eq_some_iff.mp hq).1
          have hat : at_ rows (stp rows ps) i = q := by unfold at_; rw [hrow]; show (rows[stp rows ps][i]?).getD (0, 0) = q; rw [hq]; rfl
          refine ⟨ent b rows (ps ++ [i]), by rw [List.getElem?_map, List.getElem?_map, List.getElem?_range hi]; rfl, ?_⟩
          have hz : (ps.map nI).length + 1 ≤ szLine := szl _ (by rw [List.length_map, hpl]; omega)
          rw [show pr q = .tup [.int q.1, .int q.2] from rfl]
          unfold cBody
          simp only [fnR, fnI, fin0, sSeq, sNil, sAsg, sAsgO, sPar, parE, slOf, sIf, sFor, sRet, sRetV, sRetN, sEx, sAug, augR, sAppend, sFrz, frzE, sSetFl, sDead, eC, eV, lookR, CC.e1, CC.e2, eBin, eNeg, eNot, eCmp, eChn, eAnd, eOr, eIf, aNil, aCons, pCons, rNil, rCons, eTup, eLst, eCell, eIx, oNo, oE, eSl, eRev, eAtt, eCall, eMk, eBt, eIsi, eIsc, eIndex, eComp, eLenset, tT, tNot, tAnd, tOr, tYes, gN, gNil, gCons, gT, iE, iK, iR1, iR2, iR3, iEnum, iEnumK, iZip, iZipK, itemsR, negR, revR, slR, kp_sh, kp_ow, okS, okO, Res.bind_ok, Res.bind_bad, truthR, binR, addR, subR, mulR, fdivR, modR, powR, cmpR, leR, ltR, isR, isNon, isiR, isTyp, tyIs, List.any, List.all, lenR, absR, minR, maxR, intR, boolR, listR, tupleR, List.set_cons_zero, List.set_cons_succ, List.getElem?_cons_zero, List.getElem?_cons_succ, List.length_cons, List.length_nil, List.map_cons, List.map_nil, List.replicate_zero, List.replicate_succ, List.cons_append, List.nil_append, List.append_nil, Nat.reduceAdd, Nat.reduceSub, Nat.reduceEqDiff, Nat.reduceMul, Nat.reduceLT, Nat.reduceLeDiff, Nat.zero_add, Option.bind_some, Option.map_some, if_true, if_false, ite_true, ite_false, reduceIte, reduceCtorEq, Bool.not_true, Bool.not_false, Bool.true_and, Bool.false_and, Bool.and_true, Bool.and_false, Bool.or_true, Bool.or_false, Bool.true_or, Bool.false_or, beq_self_eq_true, bne_self_eq_false, ne_eq, not_true_eq_false, not_false_eq_true, Option.some.injEq, Prod.mk.injEq, and_self, and_true, true_and, decide_true, decide_false, Bool.false_eq_true, hs, or_true, hB, hD, if_pos hz, if_pos (show 4 ≤ szLine by decide), if_pos (show 1 ≤ szLine by decide)]
          unfold ent
          rw [cels_snoc, stp_snoc]
          unfold cel
          rw [cels_st, hat]
          simp [nI]
      refine ⟨[.sh (toldD b rows), .sh (.int (L : Nat)), .sh (.int b), .sh tl, .sh (.lst ((pss (b * b) k).map (ent b rows))), t, .sh (.lst ((((pss (b * b) k).take j).flatMap fun ps => (List.range (b * b)).map fun p => ps ++ [p]).map (ent b rows))), .sh (.int ((cels b rows ps).2.1 : Nat)), .sh (.int ((cels b rows ps).2.2 : Nat)), .sh (.int (stp rows ps : Nat)), .sh (.tup (ps.map nI)), .no, .no, .no],
        [.sh (toldD b rows), .sh (.int (L : Nat)), .sh (.int b), .sh tl, .sh (.lst ((pss (b * b) k).map (ent b rows))), t, .sh (.lst ((((pss (b * b) k).take (j + 1)).flatMap fun ps => (List.range (b * b)).map fun p => ps ++ [p]).map (ent b rows))), .sh (.int ((cels b rows ps).2.1 : Nat)), .sh (.int ((cels b rows ps).2.2 : Nat)), .sh (.int (stp rows ps : Nat)), .sh (.tup (ps.map nI)), .no, .no, .no], S', rfl, .inl ?_, _, _, _, _, rfl, rfl⟩
      refine sx (ρ' := [.sh (toldD b rows), .sh (.int (L : Nat)), .sh (.int b), .sh tl, .sh (.lst ((pss (b * b) k).map (ent b rows))), t, .sh (.lst ((((pss (b * b) k).take (j + 1)).flatMap fun ps => (List.range (b * b)).map fun p => ps ++ [p]).map (ent b rows))), .sh (.int ((cels b rows ps).2.1 : Nat)), .sh (.int ((cels b rows ps).2.2 : Nat)), .sh (.int (stp rows ps : Nat)), .sh (.tup (ps.map nI)), .no, .no, .no]) (S' := S') ?_ rfl
      refine asg_ow (d := .lst ((((pss (b * b) k).take (j + 1)).flatMap fun ps => (List.range (b * b)).map fun p => ps ++ [p]).map (ent b rows))) ?_ rfl
      have hz : ((((pss (b * b) k).take j).flatMap fun ps => (List.range (b * b)).map fun p => ps ++ [p]).map (ent b rows)).length + (((List.range (b * b)).map fun p => ps ++ [p]).map (ent b rows)).length ≤ szLine := szl _ (by
        rw [List.length_map, hlen2, List.length_map, List.length_map, List.length_range, List.length_take]
        have h1 := hbig k (by omega)
        have h2 : (pss (b * b) k).length = (b * b) ^ k := pss_len k
        have h3 : (b * b) ^ k * (b * b) ≤ 729 := by rw [← Nat.pow_succ]; exact h1
        have h4 : min j (pss (b * b) k).length * (b * b) ≤ (b * b) ^ k * (b * b) := Nat.mul_le_mul_right _ (by omega)
        omega)
      refine bin_ok (x := (.sh, .lst ((((pss (b * b) k).take j).flatMap fun ps => (List.range (b * b)).map fun p => ps ++ [p]).map (ent b rows)))) (S1 := S') rfl hcomp ?_
      simp only [fnR, fnI, fin0, sSeq, sNil, sAsg, sAsgO, sPar, parE, slOf, sIf, sFor, sRet, sRetV, sRetN, sEx, sAug, augR, sAppend, sFrz, frzE, sSetFl, sDead, eC, eV, lookR, CC.e1, CC.e2, eBin, eNeg, eNot, eCmp, eChn, eAnd, eOr, eIf, aNil, aCons, pCons, rNil, rCons, eTup, eLst, eCell, eIx, oNo, oE, eSl, eRev, eAtt, eCall, eMk, eBt, eIsi, eIsc, eIndex, eComp, eLenset, tT, tNot, tAnd, tOr, tYes, gN, gNil, gCons, gT, iE, iK, iR1, iR2, iR3, iEnum, iEnumK, iZip, iZipK, itemsR, negR, revR, slR, kp_sh, kp_ow, okS, okO, Res.bind_ok, Res.bind_bad, truthR, binR, addR, subR, mulR, fdivR, modR, powR, cmpR, leR, ltR, isR, isNon, isiR, isTyp, tyIs, List.any, List.all, lenR, absR, minR, maxR, intR, boolR, listR, tupleR, List.set_cons_zero, List.set_cons_succ, List.getElem?_cons_zero, List.getElem?_cons_succ, List.length_cons, List.length_nil, List.map_cons, List.map_nil, List.replicate_zero, List.replicate_succ, List.cons_append, List.nil_append, List.append_nil, Nat.reduceAdd, Nat.reduceSub, Nat.reduceEqDiff, Nat.reduceMul, Nat.reduceLT, Nat.reduceLeDiff, Nat.zero_add, Option.bind_some, Option.map_some, if_true, if_false, ite_true, ite_false, reduceIte, reduceCtorEq, Bool.not_true, Bool.not_false, Bool.true_and, Bool.false_and, Bool.and_true, Bool.and_false, Bool.or_true, Bool.or_false, Bool.true_or, Bool.false_or, beq_self_eq_true, bne_self_eq_false, ne_eq, not_true_eq_false, not_false_eq_true, Option.some.injEq, Prod.mk.injEq, and_self, and_true, true_and, decide_true, decide_false, Bool.false_eq_true, if_pos hz]
      rw [tk, List.flatMap_append, List.map_append]
      simp)
    rw [List.length_map, List.take_length] at h
    exact ⟨x', y', s', p', h⟩
  obtain ⟨ρ', S', h, t, l, x, y, s, p, rfl, rfl⟩ := forL_range (g := gN 5) (body := sSeq (sAsg (gN 6) (eLst (aNil)))
    (sSeq (sFor (gT (gCons (gN 7) (gCons (gN 8) (gCons (gN 9) (gCons (gN 10) (gNil)))))) (iK (eV false 4))
    (sSeq (sAsg (gN 6) (eBin .add (eV true 6) (eComp (eTup (aCons (eBin .add (eBin .mul (eV true 7) (eV true 2)) (eBin .mod (eV true 12) (eV true 2))) (aCons (eBin .add (eBin .mul (eV true 8) (eV true 2)) (eBin .fdiv (eV true 12) (eV true 2))) (aCons (eV false 13) (aCons (eBin .add (eV true 10) (eTup (aCons (eV false 11) (aNil)))) (aNil)))))) (gT (gCons (gN 11) (gCons (gT (gCons (gN 12) (gCons (gN 13) (gNil)))) (gNil)))) (iEnum (eIx (eV true 3) (eV true 9))) (tYes))))
    (sNil)))
    (sSeq (sAsg (gN 4) (eV false 6))
    (sNil))))
    (fun k ρ S' => ∃ (t l x y s p : Sl), ρ = [.sh (toldD b rows), .sh (.int (L : Nat)), .sh (.int b), .sh tl, .sh (.lst ((pss (b * b) k).map (ent b rows))), t, l, x, y, s, p, .no, .no, .no] ∧ S' = S) 0 L
    [.sh (toldD b rows), .sh (.int (L : Nat)), .sh (.int b), .sh tl, .sh (.lst ((pss (b * b) 0).map (ent b rows))), .no, .no, .no, .no, .no, .no, .no, .no, .no] S ⟨.no, .no, .no, .no, .no, .no, rfl, rfl⟩ (by
    rintro k ρ S' hk ⟨t, l, x, y, s, p, rfl, rfl⟩
    obtain ⟨x', y', s', p', hi⟩ := inner k hk (.sh (.int (0 + (k : Int)))) x y s p
    refine ⟨[.sh (toldD b rows), .sh (.int (L : Nat)), .sh (.int b), .sh tl, .sh (.lst ((pss (b * b) k).map (ent b rows))), .sh (.int (0 + (k : Int))), l, x, y, s, p, .no, .no, .no], [.sh (toldD b rows), .sh (.int (L : Nat)), .sh (.int b), .sh tl, .sh (.lst ((pss (b * b) (k + 1)).map (ent b rows))), .sh (.int (0 + (k : Int))), .sh (.lst ((pss (b * b) (k + 1)).map (ent b rows))), x', y', s', p', .no, .no, .no], S', rfl, .inl ?_, _, _, _, _, _, _, rfl, rfl⟩
    refine sx (ρ' := [.sh (toldD b rows), .sh (.int (L : Nat)), .sh (.int b), .sh tl, .sh (.lst ((pss (b * b) k).map (ent b rows))), .sh (.int (0 + (k : Int))), .sh (.lst []), x, y, s, p, .no, .no, .no]) (S' := S') ?_ (sx (for_sx (xs := (pss (b * b) k).map (ent b rows)) (S1 := S') ?_ hi) ?_)
    · simp only [fnR, fnI, fin0, sSeq, sNil, sAsg, sAsgO, sPar, parE, slOf, sIf, sFor, sRet, sRetV, sRetN, sEx, sAug, augR, sAppend, sFrz, frzE, sSetFl, sDead, eC, eV, lookR, CC.e1, CC.e2, eBin, eNeg, eNot, eCmp, eChn, eAnd, eOr, eIf, aNil, aCons, pCons, rNil, rCons, eTup, eLst, eCell, eIx, oNo, oE, eSl, eRev, eAtt, eCall, eMk, eBt, eIsi, eIsc, eIndex, eComp, eLenset, tT, tNot, tAnd, tOr, tYes, gN, gNil, gCons, gT, iE, iK, iR1, iR2, iR3, iEnum, iEnumK, iZip, iZipK, itemsR, negR, revR, slR, kp_sh, kp_ow, okS, okO, Res.bind_ok, Res.bind_bad, truthR, binR, addR, subR, mulR, fdivR, modR, powR, cmpR, leR, ltR, isR, isNon, isiR, isTyp, tyIs, List.any, List.all, lenR, absR, minR, maxR, intR, boolR, listR, tupleR, List.set_cons_zero, List.set_cons_succ, List.getElem?_cons_zero, List.getElem?_cons_succ, List.length_cons, List.length_nil, List.map_cons, List.map_nil, List.replicate_zero, List.replicate_succ, List.cons_append, List.nil_append, List.append_nil, Nat.reduceAdd, Nat.reduceSub, Nat.reduceEqDiff, Nat.reduceMul, Nat.reduceLT, Nat.reduceLeDiff, Nat.zero_add, Option.bind_some, Option.map_some, if_true, if_false, ite_true, ite_false, reduceIte, reduceCtorEq, Bool.not_true, Bool.not_false, Bool.true_and, Bool.false_and, Bool.and_true, Bool.and_false, Bool.or_true, Bool.or_false, Bool.true_or, Bool.false_or, beq_self_eq_true, bne_self_eq_false, ne_eq, not_true_eq_false, not_false_eq_true, Option.some.injEq, Prod.mk.injEq, and_self, and_true, true_and, decide_true, decide_false, Bool.false_eq_true, if_pos (show 0 ≤ szLine by decide)]
    · simp only [fnR, fnI, fin0, sSeq, sNil, sAsg, sAsgO, sPar, parE, slOf, sIf, sFor, sRet, sRetV, sRetN, sEx, sAug, augR, sAppend, sFrz, frzE, sSetFl, sDead, eC, eV, lookR, CC.e1, CC.e2, eBin, eNeg, eNot, eCmp, eChn, eAnd, eOr, eIf, aNil, aCons, pCons, rNil, rCons, eTup, eLst, eCell, eIx, oNo, oE, eSl, eRev, eAtt, eCall, eMk, eBt, eIsi, eIsc, eIndex, eComp, eLenset, tT, tNot, tAnd, tOr, tYes, gN, gNil, gCons, gT, iE, iK, iR1, iR2, iR3, iEnum, iEnumK, iZip, iZipK, itemsR, negR, revR, slR, kp_sh, kp_ow, okS, okO, Res.bind_ok, Res.bind_bad, truthR, binR, addR, subR, mulR, fdivR, modR, powR, cmpR, leR, ltR, isR, isNon, isiR, isTyp, tyIs, List.any, List.all, lenR, absR, minR, maxR, intR, boolR, listR, tupleR, List.set_cons_zero, List.set_cons_succ, List.getElem?_cons_zero, List.getElem?_cons_succ, List.length_cons, List.length_nil, List.map_cons, List.map_nil, List.replicate_zero, List.replicate_succ, List.cons_append, List.nil_append, List.append_nil, Nat.reduceAdd, Nat.reduceSub, Nat.reduceEqDiff, Nat.reduceMul, Nat.reduceLT, Nat.reduceLeDiff, Nat.zero_add, Option.bind_some, Option.map_some, if_true, if_false, ite_true, ite_false, reduceIte, reduceCtorEq, Bool.not_true, Bool.not_false, Bool.true_and, Bool.false_and, Bool.and_true, Bool.and_false, Bool.or_true, Bool.or_false, Bool.true_or, Bool.false_or, beq_self_eq_true, bne_self_eq_false, ne_eq, not_true_eq_false, not_false_eq_true, Option.some.injEq, Prod.mk.injEq, and_self, and_true, true_and, decide_true, decide_false, Bool.false_eq_true]
    · simp only [fnR, fnI, fin0, sSeq, sNil, sAsg, sAsgO, sPar, parE, slOf, sIf, sFor, sRet, sRetV, sRetN, sEx, sAug, augR, sAppend, sFrz, frzE, sSetFl, sDead, eC, eV, lookR, CC.e1, CC.e2, eBin, eNeg, eNot, eCmp, eChn, eAnd, eOr, eIf, aNil, aCons, pCons, rNil, rCons, eTup, eLst, eCell, eIx, oNo, oE, eSl, eRev, eAtt, eCall, eMk, eBt, eIsi, eIsc, eIndex, eComp, eLenset, tT, tNot, tAnd, tOr, tYes, gN, gNil, gCons, gT, iE, iK, iR1, iR2, iR3, iEnum, iEnumK, iZip, iZipK, itemsR, negR, revR, slR, kp_sh, kp_ow, okS, okO, Res.bind_ok, Res.bind_bad, truthR, binR, addR, subR, mulR, fdivR, modR, powR, cmpR, leR, ltR, isR, isNon, isiR, isTyp, tyIs, List.any, List.all, lenR, absR, minR, maxR, intR, boolR, listR, tupleR, List.set_cons_zero, List.set_cons_succ, List.getElem?_cons_zero, List.getElem?_cons_succ, List.length_cons, List.length_nil, List.map_cons, List.map_nil, List.replicate_zero, List.replicate_succ, List.cons_append, List.nil_append, List.append_nil, Nat.reduceAdd, Nat.reduceSub, Nat.reduceEqDiff, Nat.reduceMul, Nat.reduceLT, Nat.reduceLeDiff, Nat.zero_add, Option.bind_some, Option.map_some, if_true, if_false, ite_true, ite_false, reduceIte, reduceCtorEq, Bool.not_true, Bool.not_false, Bool.true_and, Bool.false_and, Bool.and_true, Bool.and_false, Bool.or_true, Bool.or_false, Bool.true_or, Bool.false_or, beq_self_eq_true, bne_self_eq_false, ne_eq, not_true_eq_false, not_false_eq_true, Option.some.injEq, Prod.mk.injEq, and_self, and_true, true_and, decide_true, decide_false, Bool.false_eq_true])
  refine fnR_ret rfl (ρ := [.sh (toldD b rows), .sh (.int (L : Nat)), .sh (.int b), .sh tl, .sh (.lst ((pss (b * b) L).map (ent b rows))), t, l, x, y, s, p, .no, .no, .no]) ?_ (by simp)
  refine sx (ρ' := [.sh (toldD b rows), .sh (.int (L : Nat)), .sh (.int b), .sh tl, .no, .no, .no, .no, .no, .no, .no, .no, .no, .no]) (S' := S') ?_ (sx (ρ' := [.sh (toldD b rows), .sh (.int (L : Nat)), .sh (.int b), .sh tl, .sh (.lst ((pss (b * b) 0).map (ent b rows))), .no, .no, .no, .no, .no, .no, .no, .no, .no]) (S' := S') ?_ (sx (for_sx (xs := rangeD 0 L) (S1 := S') ?_ h) (sx_ret ?_)))
  · refine asg_sh (d := toldD b rows) (by simp only [fnR, fnI, fin0, sSeq, sNil, sAsg, sAsgO, sPar, parE, slOf, sIf, sFor, sRet, sRetV, sRetN, sEx, sAug, augR, sAppend, sFrz, frzE, sSetFl, sDead, eC, eV, lookR, CC.e1, CC.e2, eBin, eNeg, eNot, eCmp, eChn, eAnd, eOr, eIf, aNil, aCons, pCons, rNil, rCons, eTup, eLst, eCell, eIx, oNo, oE, eSl, eRev, eAtt, eCall, eMk, eBt, eIsi, eIsc, eIndex, eComp, eLenset, tT, tNot, tAnd, tOr, tYes, gN, gNil, gCons, gT, iE, iK, iR1, iR2, iR3, iEnum, iEnumK, iZip, iZipK, itemsR, negR, revR, slR, kp_sh, kp_ow, okS, okO, Res.bind_ok, Res.bind_bad, truthR, binR, addR, subR, mulR, fdivR, modR, powR, cmpR, leR, ltR, isR, isNon, isiR, isTyp, tyIs, List.any, List.all, lenR, absR, minR, maxR, intR, boolR, listR, tupleR, List.set_cons_zero, List.set_cons_succ, List.getElem?_cons_zero, List.getElem?_cons_succ, List.length_cons, List.length_nil, List.map_cons, List.map_nil, List.replicate_zero, List.replicate_succ, List.cons_append, List.nil_append, List.append_nil, Nat.reduceAdd, Nat.reduceSub, Nat.reduceEqDiff, Nat.reduceMul, Nat.reduceLT, Nat.reduceLeDiff, Nat.zero_add, Option.bind_some, Option.map_some, if_true, if_false, ite_true, ite_false, reduceIte, reduceCtorEq, Bool.not_true, Bool.not_false, Bool.true_and, Bool.false_and, Bool.and_true, Bool.and_false, Bool.or_true, Bool.or_false, Bool.true_or, Bool.false_or, beq_self_eq_true, bne_self_eq_false, ne_eq, not_true_eq_false, not_false_eq_true, Option.some.injEq, Prod.mk.injEq, and_self, and_true, true_and, decide_true, decide_false, Bool.false_eq_true]) rfl
  · simp only [fnR, fnI, fin0, sSeq, sNil, sAsg, sAsgO, sPar, parE, slOf, sIf, sFor, sRet, sRetV, sRetN, sEx, sAug, augR, sAppend, sFrz, frzE, sSetFl, sDead, eC, eV, lookR, CC.e1, CC.e2, eBin, eNeg, eNot, eCmp, eChn, eAnd, eOr, eIf, aNil, aCons, pCons, rNil, rCons, eTup, eLst, eCell, eIx, oNo, oE, eSl, eRev, eAtt, eCall, eMk, eBt, eIsi, eIsc, eIndex, eComp, eLenset, tT, tNot, tAnd, tOr, tYes, gN, gNil, gCons, gT, iE, iK, iR1, iR2, iR3, iEnum, iEnumK, iZip, iZipK, itemsR, negR, revR, slR, kp_sh, kp_ow, okS, okO, Res.bind_ok, Res.bind_bad, truthR, binR, addR, subR, mulR, fdivR, modR, powR, cmpR, leR, ltR, isR, isNon, isiR, isTyp, tyIs, List.any, List.all, lenR, absR, minR, maxR, intR, boolR, listR, tupleR, List.set_cons_zero, List.set_cons_succ, List.getElem?_cons_zero, List.getElem?_cons_succ, List.length_cons, List.length_nil, List.map_cons, List.map_nil, List.replicate_zero, List.replicate_succ, List.cons_append, List.nil_append, List.append_nil, Nat.reduceAdd, Nat.reduceSub, Nat.reduceEqDiff, Nat.reduceMul, Nat.reduceLT, Nat.reduceLeDiff, Nat.zero_add, Option.bind_some, Option.map_some, if_true, if_false, ite_true, ite_false, reduceIte, reduceCtorEq, Bool.not_true, Bool.not_false, Bool.true_and, Bool.false_and, Bool.and_true, Bool.and_false, Bool.or_true, Bool.or_false, Bool.true_or, Bool.false_or, beq_self_eq_true, bne_self_eq_false, ne_eq, not_true_eq_false, not_false_eq_true, Option.some.injEq, Prod.mk.injEq, and_self, and_true, true_and, decide_true, decide_false, Bool.false_eq_true, if_pos (show 0 ≤ szLine by decide), if_pos (show 1 ≤ szLine by decide), if_pos (show 4 ≤ szLine by decide)]
    rfl
  · simp only [fnR, fnI, fin0, sSeq, sNil, sAsg, sAsgO, sPar, parE, slOf, sIf, sFor, sRet, sRetV, sRetN, sEx, sAug, augR, sAppend, sFrz, frzE, sSetFl, sDead, eC, eV, lookR, CC.e1, CC.e2, eBin, eNeg, eNot, eCmp, eChn, eAnd, eOr, eIf, aNil, aCons, pCons, rNil, rCons, eTup, eLst, eCell, eIx, oNo, oE, eSl, eRev, eAtt, eCall, eMk, eBt, eIsi, eIsc, eIndex, eComp, eLenset, tT, tNot, tAnd, tOr, tYes, gN, gNil, gCons, gT, iE, iK, iR1, iR2, iR3, iEnum, iEnumK, iZip, iZipK, itemsR, negR, revR, slR, kp_sh, kp_ow, okS, okO, Res.bind_ok, Res.bind_bad, truthR, binR, addR, subR, mulR, fdivR, modR, powR, cmpR, leR, ltR, isR, isNon, isiR, isTyp, tyIs, List.any, List.all, lenR, absR, minR, maxR, intR, boolR, listR, tupleR, List.set_cons_zero, List.set_cons_succ, List.getElem?_cons_zero, List.getElem?_cons_succ, List.length_cons, List.length_nil, List.map_cons, List.map_nil, List.replicate_zero, List.replicate_succ, List.cons_append, List.nil_append, List.append_nil, Nat.reduceAdd, Nat.reduceSub, Nat.reduceEqDiff, Nat.reduceMul, Nat.reduceLT, Nat.reduceLeDiff, Nat.zero_add, Option.bind_some, Option.map_some, if_true, if_false, ite_true, ite_false, reduceIte, reduceCtorEq, Bool.not_true, Bool.not_false, Bool.true_and, Bool.false_and, Bool.and_true, Bool.and_false, Bool.or_true, Bool.or_false, Bool.true_or, Bool.false_or, beq_self_eq_true, bne_self_eq_false, ne_eq, not_true_eq_false, not_false_eq_true, Option.some.injEq, Prod.mk.injEq, and_self, and_true, true_and, decide_true, decide_false, Bool.false_eq_true, hr, Int.toNat_natCast]
  · simp only [fnR, fnI, fin0, sSeq, sNil, sAsg, sAsgO, sPar, parE, slOf, sIf, sFor, sRet, sRetV, sRetN, sEx, sAug, augR, sAppend, sFrz, frzE, sSetFl, sDead, eC, eV, lookR, CC.e1, CC.e2, eBin, eNeg, eNot, eCmp, eChn, eAnd, eOr, eIf, aNil, aCons, pCons, rNil, rCons, eTup, eLst, eCell, eIx, oNo, oE, eSl, eRev, eAtt, eCall, eMk, eBt, eIsi, eIsc, eIndex, eComp, eLenset, tT, tNot, tAnd, tOr, tYes, gN, gNil, gCons, gT, iE, iK, iR1, iR2, iR3, iEnum, iEnumK, iZip, iZipK, itemsR, negR, revR, slR, kp_sh, kp_ow, okS, okO, Res.bind_ok, Res.bind_bad, truthR, binR, addR, subR, mulR, fdivR, modR, powR, cmpR, leR, ltR, isR, isNon, isiR, isTyp, tyIs, List.any, List.all, lenR, absR, minR, maxR, intR, boolR, listR, tupleR, List.set_cons_zero, List.set_cons_succ, List.getElem?_cons_zero, List.getElem?_cons_succ, List.length_cons, List.length_nil, List.map_cons, List.map_nil, List.replicate_zero, List.replicate_succ, List.cons_append, List.nil_append, List.append_nil, Nat.reduceAdd, Nat.reduceSub, Nat.reduceEqDiff, Nat.reduceMul, Nat.reduceLT, Nat.reduceLeDiff, Nat.zero_add, Option.bind_some, Option.map_some, if_true, if_false, ite_true, ite_false, reduceIte, reduceCtorEq, Bool.not_true, Bool.not_false, Bool.true_and, Bool.false_and, Bool.and_true, Bool.and_false, Bool.or_true, Bool.or_false, Bool.true_or, Bool.false_or, beq_self_eq_true, bne_self_eq_false, ne_eq, not_true_eq_false, not_false_eq_true, Option.some.injEq, Prod.mk.injEq, and_self, and_true, true_and, decide_true, decide_false, Bool.false_eq_true]
end CC.K26
end

section
namespace CC.K26
open CC PySem
def rowsD (rows : Rows) : D := .lst (rows.map fun r => .lst (r.map pr))
def sts (rows : Rows) (ps : List Nat) : List Nat := (List.range (ps.length + 1)).map fun i => stp rows (ps.take i)
theorem sts_get (rows : Rows) (ps : List Nat) (i : Nat) (h : i ≤ ps.length) : (sts rows ps)[i]? = some (stp rows (ps.take i)) := by
  unfold sts
  rw [List.getElem?_map, List.getElem?_range (by omega)]; rfl
theorem sts_snoc (rows : Rows) (ps : List Nat) (p : Nat) : sts rows (ps ++ [p]) = sts rows ps ++ [stp rows (ps ++ [p])] := by
  unfold sts
  rw [List.length_append, List.range_succ (n := ps.length + [p].length), List.map_append]
  congr 1
  · show (List.range (ps.length + 1)).map _ = _
    apply List.map_congr_left
    intro i hi
    rw [List.mem_range] at hi
    rw [List.take_append_of_le_length (by omega)]
  · show [stp rows ((ps ++ [p]).take (ps.length + 1))] = _
    rw [List.take_of_length_le (by simp)]
/-- the places drawn -/
theorem places_drawn (ns : List Int) (h63 : ns.length ≤ 63) {b : Nat} {rows : Rows} (c : Cv b rows) (l : Nat) (hl : l ≤ 100) (k : Nat) (x2 x14 x15 x16 x17 x18 x19 x20 x21 x22 x23 x24 : Sl) :
    ∃ (ps : List Nat) (k' : Nat) (y14 y15 y16 y17 : Sl), ps.length = l ∧ Pl b ps ∧
    forL (gN 14) (sSeq (sAsg (gN 15) (eCall F__law_take (aCons (eV false 1) (aCons (eBin .mul (eV true 4) (eV true 4)) (aNil)))))
    (sSeq (sAsg (gT (gCons (gN 16) (gCons (gN 17) (gNil)))) (eIx (eIx (eV true 5) (eV true 9)) (eV true 15)))
    (sSeq (sPar [(8, false), (9, false), (10, false), (11, false), (12, false)] (rCons (eBin .add (eV true 8) (eLst (aCons (eV false 15) (aNil)))) (rCons (eV false 17) (rCons (eBin .add (eBin .mul (eV true 10) (eV true 4)) (eBin .mod (eV true 16) (eV true 4))) (rCons (eBin .add (eBin .mul (eV true 11) (eV true 4)) (eBin .fdiv (eV true 16) (eV true 4))) (rCons (eBin .add (eBin .mul (eBin .mul (eV true 12) (eV true 4)) (eV true 4)) (eV true 15)) (rNil)))))))
    (sSeq (sAppend 13 (eV false 9))
    (sNil))))) (rangeD 0 l) [.sh (.scr ns), .sh (.cel 0), x2, .sh (toldD b rows), .sh (.int b), .sh (rowsD rows), .sh (cvD b rows), .sh (.int l), .sh (.lst []), .sh (.int 0), .sh (.int 0), .sh (.int 0), .sh (.int 0), .ow (.lst [.int 0]), x14, x15, x16, x17, x18, x19, x20, x21, x22, x23, x24, .no, .no] (SS ns k) =
      .ok (.nx [.sh (.scr ns), .sh (.cel 0), x2, .sh (toldD b rows), .sh (.int b), .sh (rowsD rows), .sh (cvD b rows), .sh (.int l), .sh (.lst (ps.map nI)), .sh (.int (stp rows ps : Nat)), .sh (.int ((cels b rows ps).2.1 : Nat)), .sh (.int ((cels b rows ps).2.2 : Nat)), .sh (.int (num (b * b) ps : Nat)), .ow (.lst ((sts rows ps).map nI)), y14, y15, y16, y17, x18, x19, x20, x21, x22, x23, x24, .no, .no]) (SS ns k') := by
  have hb := c.b10
  have hs : Small (b : Int) := small_nat (by omega)
  have hB : (0 : Int) < (b : Int) := by omega
  have hD : DivOk (b : Int) := divOk_lit (by omega) (by omega)
  have em : ((b : Nat) : Int) * ((b : Nat) : Int) = ((b * b : Nat) : Int) := by simp
  obtain ⟨ρ', S', h, ps, k', y14, y15, y16, y17, hl', hp', rfl, rfl⟩ := forL_range (g := gN 14) (body := sSeq (sAsg (gN 15) (eCall F__law_take (aCons (eV false 1) (aCons (eBin .mul (eV true 4) (eV true 4)) (aNil)))))
    (sSeq (sAsg (gT (gCons (gN 16) (gCons (gN 17) (gNil)))) (eIx (eIx (eV true 5) (eV true 9)) (eV true 15)))
    (sSeq (sPar [(8, false), (9, false), (10, false), (11, false), (12, false)] (rCons (eBin .add (eV true 8) (eLst (aCons (eV false 15) (aNil)))) (rCons (eV false 17) (rCons (eBin .add (eBin .mul (eV true 10) (eV true 4)) (eBin .mod (eV true 16) (eV true 4))) (rCons (eBin .add (eBin .mul (eV true 11) (eV true 4)) (eBin .fdiv (eV true 16) (eV true 4))) (rCons (eBin .add (eBin .mul (eBin .mul (eV true 12) (eV true 4)) (eV true 4)) (eV true 15)) (rNil)))))))
    (sSeq (sAppend 13 (eV false 9))
    (sNil)))))
    (fun j ρ S => ∃ (ps : List Nat) (k' : Nat) (y14 y15 y16 y17 : Sl), ps.length = j ∧ Pl b ps ∧ ρ = [.sh (.scr ns), .sh (.cel 0), x2, .sh (toldD b rows), .sh (.int b), .sh (rowsD rows), .sh (cvD b rows), .sh (.int l), .sh (.lst (ps.map nI)), .sh (.int (stp rows ps : Nat)), .sh (.int ((cels b rows ps).2.1 : Nat)), .sh (.int ((cels b rows ps).2.2 : Nat)), .sh (.int (num (b * b) ps : Nat)), .ow (.lst ((sts rows ps).map nI)), y14, y15, y16, y17, x18, x19, x20, x21, x22, x23, x24, .no, .no] ∧ S = SS ns k') 0 l
    [.sh (.scr ns), .sh (.cel 0), x2, .sh (toldD b rows), .sh (.int b), .sh (rowsD rows), .sh (cvD b rows), .sh (.int l), .sh (.lst []), .sh (.int 0), .sh (.int 0), .sh (.int 0), .sh (.int 0), .ow (.lst [.int 0]), x14, x15, x16, x17, x18, x19, x20, x21, x22, x23, x24, .no, .no] (SS ns k) ⟨[], k, x14, x15, x16, x17, rfl, fun _ h => absurd h (by simp), rfl, rfl⟩ (by
    rintro j ρ S hj ⟨ps, k', y14, y15, y16, y17, hpl, hP, rfl, rfl⟩
    obtain ⟨p, hp, ht⟩ := take_ok ns h63 k' (b * b) hb.2.2.2
    have hst := stp_lt c hP
    obtain ⟨r, hm, h1, h2, _⟩ := c.get hst hp
    have e1 : ixR (rowsD rows) (.int (stp rows ps : Nat)) (SS ns (k' + 1)) = .ok (.sh, .lst (r.map pr)) (SS ns (k' + 1)) := ix_lst (by rw [List.getElem?_map, h1]; rfl) _
    have e2 : ixR (.lst (r.map pr)) (.int (p : Nat)) (SS ns (k' + 1)) = .ok (.sh, pr (at_ rows (stp rows ps) p)) (SS ns (k' + 1)) := ix_lst (by rw [List.getElem?_map, h2]; rfl) _
    have hz1 : (ps.map nI).length + 1 ≤ szLine := szl _ (by rw [List.length_map]; omega)
    have hz2 : ((sts rows ps).map nI).length < szLine := by rw [List.length_map]; unfold sts szLine; rw [List.length_map, List.length_range]; omega
    refine ⟨[.sh (.scr ns), .sh (.cel 0), x2, .sh (toldD b rows), .sh (.int b), .sh (rowsD rows), .sh (cvD b rows), .sh (.int l), .sh (.lst (ps.map nI)), .sh (.int (stp rows ps : Nat)), .sh (.int ((cels b rows ps).2.1 : Nat)), .sh (.int ((cels b rows ps).2.2 : Nat)), .sh (.int (num (b * b) ps : Nat)), .ow (.lst ((sts rows ps).map nI)), .sh (.int (0 + (j : Int))), y15, y16, y17, x18, x19, x20, x21, x22, x23, x24, .no, .no],
      [.sh (.scr ns), .sh (.cel 0), x2, .sh (toldD b rows), .sh (.int b), .sh (rowsD rows), .sh (cvD b rows), .sh (.int l), .sh (.lst ((ps ++ [p]).map nI)), .sh (.int (stp rows (ps ++ [p]) : Nat)), .sh (.int ((cels b rows (ps ++ [p])).2.1 : Nat)), .sh (.int ((cels b rows (ps ++ [p])).2.2 : Nat)), .sh (.int (num (b * b) (ps ++ [p]) : Nat)), .ow (.lst ((sts rows (ps ++ [p])).map nI)), .sh (.int (0 + (j : Int))), .sh (.int (p : Nat)), .sh (.int ((at_ rows (stp rows ps) p).1 : Nat)), .sh (.int ((at_ rows (stp rows ps) p).2 : Nat)), x18, x19, x20, x21, x22, x23, x24, .no, .no], SS ns (k' + 1), rfl, .inl ?_, ps ++ [p], k' + 1, _, _, _, _, by rw [List.length_append, hpl]; rfl, fun q hq => ?_, rfl, rfl⟩
    · simp only [fnR, fnI, fin0, sSeq, sNil, sAsg, sAsgO, sPar, parE, slOf, sIf, sFor, sRet, sRetV, sRetN, sEx, sAug, augR, sAppend, sFrz, frzE, sSetFl, sDead, eC, eV, lookR, CC.e1, CC.e2, eBin, eNeg, eNot, eCmp, eChn, eAnd, eOr, eIf, aNil, aCons, pCons, rNil, rCons, eTup, eLst, eCell, eIx, oNo, oE, eSl, eRev, eAtt, eCall, eMk, eBt, eIsi, eIsc, eIndex, eComp, eLenset, tT, tNot, tAnd, tOr, tYes, gN, gNil, gCons, gT, iE, iK, iR1, iR2, iR3, iEnum, iEnumK, iZip, iZipK, itemsR, negR, revR, slR, kp_sh, kp_ow, okS, okO, Res.bind_ok, Res.bind_bad, truthR, binR, addR, subR, mulR, fdivR, modR, powR, cmpR, leR, ltR, isR, isNon, isiR, isTyp, tyIs, List.any, List.all, lenR, absR, minR, maxR, intR, boolR, listR, tupleR, List.set_cons_zero, List.set_cons_succ, List.getElem?_cons_zero, List.getElem?_cons_succ, List.length_cons, List.length_nil, List.map_cons, List.map_nil, List.replicate_zero, List.replicate_succ, List.cons_append, List.nil_append, List.append_nil, Nat.reduceAdd, Nat.reduceSub, Nat.reduceEqDiff, Nat.reduceMul, Nat.reduceLT, Nat.reduceLeDiff, Nat.zero_add, Option.bind_some, Option.map_some, if_true, if_false, ite_true, ite_false, reduceIte, reduceCtorEq, Bool.not_true, Bool.not_false, Bool.true_and, Bool.false_and, Bool.and_true, Bool.and_false, Bool.or_true, Bool.or_false, Bool.true_or, Bool.false_or, beq_self_eq_true, bne_self_eq_false, ne_eq, not_true_eq_false, not_false_eq_true, Option.some.injEq, Prod.mk.injEq, and_self, and_true, true_and, decide_true, decide_false, Bool.false_eq_true, hs, or_true, em, ht, e1, e2, pr, hB, hD, if_pos hz1, if_pos hz2, if_pos (show 1 ≤ szLine by decide)]
      rw [sts_snoc, stp_snoc, cels_snoc, num_snoc]
      simp [nI, cel, cels_st, Int.mul_assoc]
    · rcases List.mem_append.mp hq with hq | hq
      · exact hP q hq
      · rw [List.mem_singleton.mp hq]; exact hp)
  exact ⟨ps, k', y14, y15, y16, y17, hl', hp', h⟩
/-- a curve's functions at drawn places -/
structure Fun5 (b : Nat) (rows : Rows) (ps : List Nat) : Prop where
  num : ∀ S, F_number_of [cvD b rows, .int (ps.length : Nat), .int ((cels b rows ps).2.1 : Nat), .int ((cels b rows ps).2.2 : Nat)] S = .ok (.sh, .int (K26.num (b * b) ps : Nat)) S
  cell : ∀ S, F_cell_of [cvD b rows, .int (ps.length : Nat), .int (K26.num (b * b) ps : Nat)] S = .ok (.sh, .tup [nI (cels b rows ps).2.1, nI (cels b rows ps).2.2]) S
  st : ∀ S, F_state_of [cvD b rows, .int (ps.length : Nat), .int (K26.num (b * b) ps : Nat)] S = .ok (.sh, .int (stp rows ps : Nat)) S
  pl : ∀ S, F_places_of [cvD b rows, .int (ps.length : Nat), .int (K26.num (b * b) ps : Nat)] S = .ok (.ow, .lst (ps.map nI)) S
  dg : ∀ S, F_digits_of [cvD b rows, .int (ps.length : Nat), .int ((cels b rows ps).2.1 : Nat), .int ((cels b rows ps).2.2 : Nat)] S = .ok (.ow, .lst (ps.map nI)) S
theorem fun5 {b : Nat} {rows : Rows} (c : Cv b rows) {ps : List Nat} (h : Pl b ps) (hl : ps.length ≤ 300) : Fun5 b rows ps := by
  have hb := c.b10
  have hd := dig_num hb.2.2.2 ps h
  have hn := num_lt hb.2.2.2 h
  exact ⟨number_of_ok c ps h hl, cell_of_ok c ps h hl hd hn, state_of_ok c ps h hl hd hn, fun S => by rw [places_of_ok c ps.length hl _ hn, hd], digits_of_ok c ps h hl⟩
end CC.K26
end

section
namespace CC.K26
open CC PySem
/-- the names of the law behind the places -/
def E5 (ns : List Int) (b : Nat) (rows : Rows) (ps : List Nat) (x2 y14 y15 y16 y17 x18 x19 x20 x21 x22 x23 x24 : Sl) : Env :=
  [.sh (.scr ns), .sh (.cel 0), x2, .sh (toldD b rows), .sh (.int b), .sh (rowsD rows), .sh (cvD b rows), .sh (.int (ps.length : Nat)), .sh (.lst (ps.map nI)), .sh (.int (stp rows ps : Nat)), .sh (.int ((cels b rows ps).2.1 : Nat)), .sh (.int ((cels b rows ps).2.2 : Nat)), .sh (.int (num (b * b) ps : Nat)), .ow (.lst ((sts rows ps).map nI)), y14, y15, y16, y17, x18, x19, x20, x21, x22, x23, x24, .no, .no]
theorem good_pair (x y : Nat) : good (.tup [nI x, nI y]) = true := good_tnats [x, y]
theorem check1 (ns : List Int) {b : Nat} {rows : Rows} (c : Cv b rows) {ps : List Nat} (h : Pl b ps) (hl : ps.length ≤ 300) (x2 y14 y15 y16 y17 x18 x19 x20 x21 x22 x23 x24 : Sl) (S : Sto) :
    tOr (tT (eCmp .ne (eCall F_number_of (aCons (eV false 6) (aCons (eV false 7) (aCons (eV false 10) (aCons (eV false 11) (aNil)))))) (eV true 12))) (tOr (tT (eCmp .ne (eBt tupleR (pCons (eCall F_cell_of (aCons (eV false 6) (aCons (eV false 7) (aCons (eV false 12) (aNil))))) (aNil))) (eTup (aCons (eV false 10) (aCons (eV false 11) (aNil)))))) (tOr (tT (eCmp .ne (eCall F_state_of (aCons (eV false 6) (aCons (eV false 7) (aCons (eV false 12) (aNil))))) (eV true 9))) (tOr (tT (eCmp .ne (eBt listR (pCons (eCall F_places_of (aCons (eV false 6) (aCons (eV false 7) (aCons (eV false 12) (aNil))))) (aNil))) (eV true 8))) (tT (eCmp .ne (eBt listR (pCons (eCall F_digits_of (aCons (eV false 6) (aCons (eV false 7) (aCons (eV false 10) (aCons (eV false 11) (aNil)))))) (aNil))) (eV true 8))))))
      (E5 ns b rows ps x2 y14 y15 y16 y17 x18 x19 x20 x21 x22 x23 x24) S = .ok false S := by
  have F := fun5 c h hl
  refine or_ff (ne_ff (S1 := S) (S2 := S) (t1 := .sh) (t2 := .sh) (d := .int (num (b * b) ps : Nat)) ?_ ?_ rfl) (or_ff (ne_ff (S1 := S) (S2 := S) (t1 := .sh) (t2 := .sh) (d := .tup [nI (cels b rows ps).2.1, nI (cels b rows ps).2.2]) ?_ ?_ (good_pair _ _)) (or_ff (ne_ff (S1 := S) (S2 := S) (t1 := .sh) (t2 := .sh) (d := .int (stp rows ps : Nat)) ?_ ?_ rfl) (or_ff (ne_ff (S1 := S) (S2 := S) (t1 := .ow) (t2 := .sh) (d := .lst (ps.map nI)) ?_ ?_ (good_nats _)) (ne_ff (S1 := S) (S2 := S) (t1 := .ow) (t2 := .sh) (d := .lst (ps.map nI)) ?_ ?_ (good_nats _)))))
  · unfold E5; simp only [fnR, fnI, fin0, sSeq, sNil, sAsg, sAsgO, sPar, parE, slOf, sIf, sFor, sRet, sRetV, sRetN, sEx, sAug, augR, sAppend, sFrz, frzE, sSetFl, sDead, eC, eV, lookR, CC.e1, CC.e2, eBin, eNeg, eNot, eCmp, eChn, eAnd, eOr, eIf, aNil, aCons, pCons, rNil, rCons, eTup, eLst, eCell, eIx, oNo, oE, eSl, eRev, eAtt, eCall, eMk, eBt, eIsi, eIsc, eIndex, eComp, eLenset, tT, tNot, tAnd, tOr, tYes, gN, gNil, gCons, gT, iE, iK, iR1, iR2, iR3, iEnum, iEnumK, iZip, iZipK, itemsR, negR, revR, slR, kp_sh, kp_ow, okS, okO, Res.bind_ok, Res.bind_bad, truthR, binR, addR, subR, mulR, fdivR, modR, powR, cmpR, leR, ltR, isR, isNon, isiR, isTyp, tyIs, List.any, List.all, lenR, absR, minR, maxR, intR, boolR, listR, tupleR, List.set_cons_zero, List.set_cons_succ, List.getElem?_cons_zero, List.getElem?_cons_succ, List.length_cons, List.length_nil, List.map_cons, List.map_nil, List.replicate_zero, List.replicate_succ, List.cons_append, List.nil_append, List.append_nil, Nat.reduceAdd, Nat.reduceSub, Nat.reduceEqDiff, Nat.reduceMul, Nat.reduceLT, Nat.reduceLeDiff, Nat.zero_add, Option.bind_some, Option.map_some, if_true, if_false, ite_true, ite_false, reduceIte, reduceCtorEq, Bool.not_true, Bool.not_false, Bool.true_and, Bool.false_and, Bool.and_true, Bool.and_false, Bool.or_true, Bool.or_false, Bool.true_or, Bool.false_or, beq_self_eq_true, bne_self_eq_false, ne_eq, not_true_eq_false, not_false_eq_true, Option.some.injEq, Prod.mk.injEq, and_self, and_true, true_and, decide_true, decide_false, Bool.false_eq_true, F.num]
  · unfold E5; simp only [fnR, fnI, fin0, sSeq, sNil, sAsg, sAsgO, sPar, parE, slOf, sIf, sFor, sRet, sRetV, sRetN, sEx, sAug, augR, sAppend, sFrz, frzE, sSetFl, sDead, eC, eV, lookR, CC.e1, CC.e2, eBin, eNeg, eNot, eCmp, eChn, eAnd, eOr, eIf, aNil, aCons, pCons, rNil, rCons, eTup, eLst, eCell, eIx, oNo, oE, eSl, eRev, eAtt, eCall, eMk, eBt, eIsi, eIsc, eIndex, eComp, eLenset, tT, tNot, tAnd, tOr, tYes, gN, gNil, gCons, gT, iE, iK, iR1, iR2, iR3, iEnum, iEnumK, iZip, iZipK, itemsR, negR, revR, slR, kp_sh, kp_ow, okS, okO, Res.bind_ok, Res.bind_bad, truthR, binR, addR, subR, mulR, fdivR, modR, powR, cmpR, leR, ltR, isR, isNon, isiR, isTyp, tyIs, List.any, List.all, lenR, absR, minR, maxR, intR, boolR, listR, tupleR, List.set_cons_zero, List.set_cons_succ, List.getElem?_cons_zero, List.getElem?_cons_succ, List.length_cons, List.length_nil, List.map_cons, List.map_nil, List.replicate_zero, List.replicate_succ, List.cons_append, List.nil_append, List.append_nil, Nat.reduceAdd, Nat.reduceSub, Nat.reduceEqDiff, Nat.reduceMul, Nat.reduceLT, Nat.reduceLeDiff, Nat.zero_add, Option.bind_some, Option.map_some, if_true, if_false, ite_true, ite_false, reduceIte, reduceCtorEq, Bool.not_true, Bool.not_false, Bool.true_and, Bool.false_and, Bool.and_true, Bool.and_false, Bool.or_true, Bool.or_false, Bool.true_or, Bool.false_or, beq_self_eq_true, bne_self_eq_false, ne_eq, not_true_eq_false, not_false_eq_true, Option.some.injEq, Prod.mk.injEq, and_self, and_true, true_and, decide_true, decide_false, Bool.false_eq_true]
  · unfold E5; simp only [fnR, fnI, fin0, sSeq, sNil, sAsg, sAsgO, sPar, parE, slOf, sIf, sFor, sRet, sRetV, sRetN, sEx, sAug, augR, sAppend, sFrz, frzE, sSetFl, sDead, eC, eV, lookR, CC.e1, CC.e2, eBin, eNeg, eNot, eCmp, eChn, eAnd, eOr, eIf, aNil, aCons, pCons, rNil, rCons, eTup, eLst, eCell, eIx, oNo, oE, eSl, eRev, eAtt, eCall, eMk, eBt, eIsi, eIsc, eIndex, eComp, eLenset, tT, tNot, tAnd, tOr, tYes, gN, gNil, gCons, gT, iE, iK, iR1, iR2, iR3, iEnum, iEnumK, iZip, iZipK, itemsR, negR, revR, slR, kp_sh, kp_ow, okS, okO, Res.bind_ok, Res.bind_bad, truthR, binR, addR, subR, mulR, fdivR, modR, powR, cmpR, leR, ltR, isR, isNon, isiR, isTyp, tyIs, List.any, List.all, lenR, absR, minR, maxR, intR, boolR, listR, tupleR, List.set_cons_zero, List.set_cons_succ, List.getElem?_cons_zero, List.getElem?_cons_succ, List.length_cons, List.length_nil, List.map_cons, List.map_nil, List.replicate_zero, List.replicate_succ, List.cons_append, List.nil_append, List.append_nil, Nat.reduceAdd, Nat.reduceSub, Nat.reduceEqDiff, Nat.reduceMul, Nat.reduceLT, Nat.reduceLeDiff, Nat.zero_add, Option.bind_some, Option.map_some, if_true, if_false, ite_true, ite_false, reduceIte, reduceCtorEq, Bool.not_true, Bool.not_false, Bool.true_and, Bool.false_and, Bool.and_true, Bool.and_false, Bool.or_true, Bool.or_false, Bool.true_or, Bool.false_or, beq_self_eq_true, bne_self_eq_false, ne_eq, not_true_eq_false, not_false_eq_true, Option.some.injEq, Prod.mk.injEq, and_self, and_true, true_and, decide_true, decide_false, Bool.false_eq_true, F.cell]
  · unfold E5; simp only [fnR, fnI, fin0, sSeq, sNil, sAsg, sAsgO, sPar, parE, slOf, sIf, sFor, sRet, sRetV, sRetN, sEx, sAug, augR, sAppend, sFrz, frzE, sSetFl, sDead, eC, eV, lookR, CC.e1, CC.e2, eBin, eNeg, eNot, eCmp, eChn, eAnd, eOr, eIf, aNil, aCons, pCons, rNil, rCons, eTup, eLst, eCell, eIx, oNo, oE, eSl, eRev, eAtt, eCall, eMk, eBt, eIsi, eIsc, eIndex, eComp, eLenset, tT, tNot, tAnd, tOr, tYes, gN, gNil, gCons, gT, iE, iK, iR1, iR2, iR3, iEnum, iEnumK, iZip, iZipK, itemsR, negR, revR, slR, kp_sh, kp_ow, okS, okO, Res.bind_ok, Res.bind_bad, truthR, binR, addR, subR, mulR, fdivR, modR, powR, cmpR, leR, ltR, isR, isNon, isiR, isTyp, tyIs, List.any, List.all, lenR, absR, minR, maxR, intR, boolR, listR, tupleR, List.set_cons_zero, List.set_cons_succ, List.getElem?_cons_zero, List.getElem?_cons_succ, List.length_cons, List.length_nil, List.map_cons, List.map_nil, List.replicate_zero, List.replicate_succ, List.cons_append, List.nil_append, List.append_nil, Nat.reduceAdd, Nat.reduceSub, Nat.reduceEqDiff, Nat.reduceMul, Nat.reduceLT, Nat.reduceLeDiff, Nat.zero_add, Option.bind_some, Option.map_some, if_true, if_false, ite_true, ite_false, reduceIte, reduceCtorEq, Bool.not_true, Bool.not_false, Bool.true_and, Bool.false_and, Bool.and_true, Bool.and_false, Bool.or_true, Bool.or_false, Bool.true_or, Bool.false_or, beq_self_eq_true, bne_self_eq_false, ne_eq, not_true_eq_false, not_false_eq_true, Option.some.injEq, Prod.mk.injEq, and_self, and_true, true_and, decide_true, decide_false, Bool.false_eq_true, if_pos (show 2 ≤ szLine by decide)]; rfl
  · unfold E5; simp only [fnR, fnI, fin0, sSeq, sNil, sAsg, sAsgO, sPar, parE, slOf, sIf, sFor, sRet, sRetV, sRetN, sEx, sAug, augR, sAppend, sFrz, frzE, sSetFl, sDead, eC, eV, lookR, CC.e1, CC.e2, eBin, eNeg, eNot, eCmp, eChn, eAnd, eOr, eIf, aNil, aCons, pCons, rNil, rCons, eTup, eLst, eCell, eIx, oNo, oE, eSl, eRev, eAtt, eCall, eMk, eBt, eIsi, eIsc, eIndex, eComp, eLenset, tT, tNot, tAnd, tOr, tYes, gN, gNil, gCons, gT, iE, iK, iR1, iR2, iR3, iEnum, iEnumK, iZip, iZipK, itemsR, negR, revR, slR, kp_sh, kp_ow, okS, okO, Res.bind_ok, Res.bind_bad, truthR, binR, addR, subR, mulR, fdivR, modR, powR, cmpR, leR, ltR, isR, isNon, isiR, isTyp, tyIs, List.any, List.all, lenR, absR, minR, maxR, intR, boolR, listR, tupleR, List.set_cons_zero, List.set_cons_succ, List.getElem?_cons_zero, List.getElem?_cons_succ, List.length_cons, List.length_nil, List.map_cons, List.map_nil, List.replicate_zero, List.replicate_succ, List.cons_append, List.nil_append, List.append_nil, Nat.reduceAdd, Nat.reduceSub, Nat.reduceEqDiff, Nat.reduceMul, Nat.reduceLT, Nat.reduceLeDiff, Nat.zero_add, Option.bind_some, Option.map_some, if_true, if_false, ite_true, ite_false, reduceIte, reduceCtorEq, Bool.not_true, Bool.not_false, Bool.true_and, Bool.false_and, Bool.and_true, Bool.and_false, Bool.or_true, Bool.or_false, Bool.true_or, Bool.false_or, beq_self_eq_true, bne_self_eq_false, ne_eq, not_true_eq_false, not_false_eq_true, Option.some.injEq, Prod.mk.injEq, and_self, and_true, true_and, decide_true, decide_false, Bool.false_eq_true, F.st]
  · unfold E5; simp only [fnR, fnI, fin0, sSeq, sNil, sAsg, sAsgO, sPar, parE, slOf, sIf, sFor, sRet, sRetV, sRetN, sEx, sAug, augR, sAppend, sFrz, frzE, sSetFl, sDead, eC, eV, lookR, CC.e1, CC.e2, eBin, eNeg, eNot, eCmp, eChn, eAnd, eOr, eIf, aNil, aCons, pCons, rNil, rCons, eTup, eLst, eCell, eIx, oNo, oE, eSl, eRev, eAtt, eCall, eMk, eBt, eIsi, eIsc, eIndex, eComp, eLenset, tT, tNot, tAnd, tOr, tYes, gN, gNil, gCons, gT, iE, iK, iR1, iR2, iR3, iEnum, iEnumK, iZip, iZipK, itemsR, negR, revR, slR, kp_sh, kp_ow, okS, okO, Res.bind_ok, Res.bind_bad, truthR, binR, addR, subR, mulR, fdivR, modR, powR, cmpR, leR, ltR, isR, isNon, isiR, isTyp, tyIs, List.any, List.all, lenR, absR, minR, maxR, intR, boolR, listR, tupleR, List.set_cons_zero, List.set_cons_succ, List.getElem?_cons_zero, List.getElem?_cons_succ, List.length_cons, List.length_nil, List.map_cons, List.map_nil, List.replicate_zero, List.replicate_succ, List.cons_append, List.nil_append, List.append_nil, Nat.reduceAdd, Nat.reduceSub, Nat.reduceEqDiff, Nat.reduceMul, Nat.reduceLT, Nat.reduceLeDiff, Nat.zero_add, Option.bind_some, Option.map_some, if_true, if_false, ite_true, ite_false, reduceIte, reduceCtorEq, Bool.not_true, Bool.not_false, Bool.true_and, Bool.false_and, Bool.and_true, Bool.and_false, Bool.or_true, Bool.or_false, Bool.true_or, Bool.false_or, beq_self_eq_true, bne_self_eq_false, ne_eq, not_true_eq_false, not_false_eq_true, Option.some.injEq, Prod.mk.injEq, and_self, and_true, true_and, decide_true, decide_false, Bool.false_eq_true]
  · unfold E5; simp only [fnR, fnI, fin0, sSeq, sNil, sAsg, sAsgO, sPar, parE, slOf, sIf, sFor, sRet, sRetV, sRetN, sEx, sAug, augR, sAppend, sFrz, frzE, sSetFl, sDead, eC, eV, lookR, CC.e1, CC.e2, eBin, eNeg, eNot, eCmp, eChn, eAnd, eOr, eIf, aNil, aCons, pCons, rNil, rCons, eTup, eLst, eCell, eIx, oNo, oE, eSl, eRev, eAtt, eCall, eMk, eBt, eIsi, eIsc, eIndex, eComp, eLenset, tT, tNot, tAnd, tOr, tYes, gN, gNil, gCons, gT, iE, iK, iR1, iR2, iR3, iEnum, iEnumK, iZip, iZipK, itemsR, negR, revR, slR, kp_sh, kp_ow, okS, okO, Res.bind_ok, Res.bind_bad, truthR, binR, addR, subR, mulR, fdivR, modR, powR, cmpR, leR, ltR, isR, isNon, isiR, isTyp, tyIs, List.any, List.all, lenR, absR, minR, maxR, intR, boolR, listR, tupleR, List.set_cons_zero, List.set_cons_succ, List.getElem?_cons_zero, List.getElem?_cons_succ, List.length_cons, List.length_nil, List.map_cons, List.map_nil, List.replicate_zero, List.replicate_succ, List.cons_append, List.nil_append, List.append_nil, Nat.reduceAdd, Nat.reduceSub, Nat.reduceEqDiff, Nat.reduceMul, Nat.reduceLT, Nat.reduceLeDiff, Nat.zero_add, Option.bind_some, Option.map_some, if_true, if_false, ite_true, ite_false, reduceIte, reduceCtorEq, Bool.not_true, Bool.not_false, Bool.true_and, Bool.false_and, Bool.and_true, Bool.and_false, Bool.or_true, Bool.or_false, Bool.true_or, Bool.false_or, beq_self_eq_true, bne_self_eq_false, ne_eq, not_true_eq_false, not_false_eq_true, Option.some.injEq, Prod.mk.injEq, and_self, and_true, true_and, decide_true, decide_false, Bool.false_eq_true, F.pl]
  · unfold E5; simp only [fnR, fnI, fin0, sSeq, sNil, sAsg, sAsgO, sPar, parE, slOf, sIf, sFor, sRet, sRetV, sRetN, sEx, sAug, augR, sAppend, sFrz, frzE, sSetFl, sDead, eC, eV, lookR, CC.e1, CC.e2, eBin, eNeg, eNot, eCmp, eChn, eAnd, eOr, eIf, aNil, aCons, pCons, rNil, rCons, eTup, eLst, eCell, eIx, oNo, oE, eSl, eRev, eAtt, eCall, eMk, eBt, eIsi, eIsc, eIndex, eComp, eLenset, tT, tNot, tAnd, tOr, tYes, gN, gNil, gCons, gT, iE, iK, iR1, iR2, iR3, iEnum, iEnumK, iZip, iZipK, itemsR, negR, revR, slR, kp_sh, kp_ow, okS, okO, Res.bind_ok, Res.bind_bad, truthR, binR, addR, subR, mulR, fdivR, modR, powR, cmpR, leR, ltR, isR, isNon, isiR, isTyp, tyIs, List.any, List.all, lenR, absR, minR, maxR, intR, boolR, listR, tupleR, List.set_cons_zero, List.set_cons_succ, List.getElem?_cons_zero, List.getElem?_cons_succ, List.length_cons, List.length_nil, List.map_cons, List.map_nil, List.replicate_zero, List.replicate_succ, List.cons_append, List.nil_append, List.append_nil, Nat.reduceAdd, Nat.reduceSub, Nat.reduceEqDiff, Nat.reduceMul, Nat.reduceLT, Nat.reduceLeDiff, Nat.zero_add, Option.bind_some, Option.map_some, if_true, if_false, ite_true, ite_false, reduceIte, reduceCtorEq, Bool.not_true, Bool.not_false, Bool.true_and, Bool.false_and, Bool.and_true, Bool.and_false, Bool.or_true, Bool.or_false, Bool.true_or, Bool.false_or, beq_self_eq_true, bne_self_eq_false, ne_eq, not_true_eq_false, not_false_eq_true, Option.some.injEq, Prod.mk.injEq, and_self, and_true, true_and, decide_true, decide_false, Bool.false_eq_true]
  · unfold E5; simp only [fnR, fnI, fin0, sSeq, sNil, sAsg, sAsgO, sPar, parE, slOf, sIf, sFor, sRet, sRetV, sRetN, sEx, sAug, augR, sAppend, sFrz, frzE, sSetFl, sDead, eC, eV, lookR, CC.e1, CC.e2, eBin, eNeg, eNot, eCmp, eChn, eAnd, eOr, eIf, aNil, aCons, pCons, rNil, rCons, eTup, eLst, eCell, eIx, oNo, oE, eSl, eRev, eAtt, eCall, eMk, eBt, eIsi, eIsc, eIndex, eComp, eLenset, tT, tNot, tAnd, tOr, tYes, gN, gNil, gCons, gT, iE, iK, iR1, iR2, iR3, iEnum, iEnumK, iZip, iZipK, itemsR, negR, revR, slR, kp_sh, kp_ow, okS, okO, Res.bind_ok, Res.bind_bad, truthR, binR, addR, subR, mulR, fdivR, modR, powR, cmpR, leR, ltR, isR, isNon, isiR, isTyp, tyIs, List.any, List.all, lenR, absR, minR, maxR, intR, boolR, listR, tupleR, List.set_cons_zero, List.set_cons_succ, List.getElem?_cons_zero, List.getElem?_cons_succ, List.length_cons, List.length_nil, List.map_cons, List.map_nil, List.replicate_zero, List.replicate_succ, List.cons_append, List.nil_append, List.append_nil, Nat.reduceAdd, Nat.reduceSub, Nat.reduceEqDiff, Nat.reduceMul, Nat.reduceLT, Nat.reduceLeDiff, Nat.zero_add, Option.bind_some, Option.map_some, if_true, if_false, ite_true, ite_false, reduceIte, reduceCtorEq, Bool.not_true, Bool.not_false, Bool.true_and, Bool.false_and, Bool.and_true, Bool.and_false, Bool.or_true, Bool.or_false, Bool.true_or, Bool.false_or, beq_self_eq_true, bne_self_eq_false, ne_eq, not_true_eq_false, not_false_eq_true, Option.some.injEq, Prod.mk.injEq, and_self, and_true, true_and, decide_true, decide_false, Bool.false_eq_true, F.dg]
  · unfold E5; simp only [fnR, fnI, fin0, sSeq, sNil, sAsg, sAsgO, sPar, parE, slOf, sIf, sFor, sRet, sRetV, sRetN, sEx, sAug, augR, sAppend, sFrz, frzE, sSetFl, sDead, eC, eV, lookR, CC.e1, CC.e2, eBin, eNeg, eNot, eCmp, eChn, eAnd, eOr, eIf, aNil, aCons, pCons, rNil, rCons, eTup, eLst, eCell, eIx, oNo, oE, eSl, eRev, eAtt, eCall, eMk, eBt, eIsi, eIsc, eIndex, eComp, eLenset, tT, tNot, tAnd, tOr, tYes, gN, gNil, gCons, gT, iE, iK, iR1, iR2, iR3, iEnum, iEnumK, iZip, iZipK, itemsR, negR, revR, slR, kp_sh, kp_ow, okS, okO, Res.bind_ok, Res.bind_bad, truthR, binR, addR, subR, mulR, fdivR, modR, powR, cmpR, leR, ltR, isR, isNon, isiR, isTyp, tyIs, List.any, List.all, lenR, absR, minR, maxR, intR, boolR, listR, tupleR, List.set_cons_zero, List.set_cons_succ, List.getElem?_cons_zero, List.getElem?_cons_succ, List.length_cons, List.length_nil, List.map_cons, List.map_nil, List.replicate_zero, List.replicate_succ, List.cons_append, List.nil_append, List.append_nil, Nat.reduceAdd, Nat.reduceSub, Nat.reduceEqDiff, Nat.reduceMul, Nat.reduceLT, Nat.reduceLeDiff, Nat.zero_add, Option.bind_some, Option.map_some, if_true, if_false, ite_true, ite_false, reduceIte, reduceCtorEq, Bool.not_true, Bool.not_false, Bool.true_and, Bool.false_and, Bool.and_true, Bool.and_false, Bool.or_true, Bool.or_false, Bool.true_or, Bool.false_or, beq_self_eq_true, bne_self_eq_false, ne_eq, not_true_eq_false, not_false_eq_true, Option.some.injEq, Prod.mk.injEq, and_self, and_true, true_and, decide_true, decide_false, Bool.false_eq_true]
theorem cut_take (l : List D) (k : Nat) (hk : k ≤ l.length) : cut l none (some (k : Int)) = l.take k := by
  show List.take ((if (k : Int) < 0 then ((k : Int) + l.length).toNat else min (k : Int).toNat l.length) - 0) (List.drop 0 l) = _
  rw [if_neg (by omega), List.drop_zero]
  congr 1
  simp
  omega
/-- one turn of the levels above -/
theorem up_turn (ns : List Int) {b : Nat} {rows : Rows} (c : Cv b rows) {ps : List Nat} (h : Pl b ps) (hl : ps.length ≤ 100) (up : Nat) (hu : up ≤ ps.length) (hsm : up ≤ 20 ∨ up = ps.length) (x2 y14 y15 y16 y17 x19 x20 x21 x22 x23 x24 : Sl) (S : Sto) :
    ∃ z14 z19 z20, sSeq (sPar [(19, false), (20, false)] (rCons (eC (.int 1)) (rCons (eC (.int 1)) (rNil))))
    (sSeq (sFor (gN 14) (iR1 (eV true 18))
    (sSeq (sPar [(19, false), (20, false)] (rCons (eBin .mul (eBin .mul (eV true 19) (eV true 4)) (eV true 4)) (rCons (eBin .mul (eV true 20) (eV true 4)) (rNil))))
    (sNil)))
    (sSeq (sIf (tOr (tT (eCmp .ne (eCall F_number_of (aCons (eV false 6) (aCons (eBin .sub (eV true 7) (eV true 18)) (aCons (eBin .fdiv (eV true 10) (eV true 20)) (aCons (eBin .fdiv (eV true 11) (eV true 20)) (aNil)))))) (eBin .fdiv (eV true 12) (eV true 19)))) (tOr (tT (eCmp .ne (eBt tupleR (pCons (eCall F_cell_of (aCons (eV false 6) (aCons (eBin .sub (eV true 7) (eV true 18)) (aCons (eBin .fdiv (eV true 12) (eV true 19)) (aNil))))) (aNil))) (eTup (aCons (eBin .fdiv (eV true 10) (eV true 20)) (aCons (eBin .fdiv (eV true 11) (eV true 20)) (aNil)))))) (tOr (tT (eCmp .ne (eCall F_state_of (aCons (eV false 6) (aCons (eBin .sub (eV true 7) (eV true 18)) (aCons (eBin .fdiv (eV true 12) (eV true 19)) (aNil))))) (eIx (eV true 13) (eBin .sub (eV true 7) (eV true 18))))) (tT (eCmp .ne (eCall F_side (aCons (eV false 6) (aCons (eV false 7) (aNil)))) (eBin .mul (eV true 20) (eCall F_side (aCons (eV false 6) (aCons (eBin .sub (eV true 7) (eV true 18)) (aNil))))))))))
    (sSeq (sRet (eC (.bl false)))
    (sNil))
    (sNil))
    (sSeq (sIf (tT (eCmp .ne (eBt listR (pCons (eCall F_places_of (aCons (eV false 6) (aCons (eBin .sub (eV true 7) (eV true 18)) (aCons (eBin .fdiv (eV true 12) (eV true 19)) (aNil))))) (aNil))) (eSl (eV true 8) (oNo) (oE (eBin .sub (eV true 7) (eV true 18))))))
    (sSeq (sRet (eC (.bl false)))
    (sNil))
    (sNil))
    (sNil)))) (E5 ns b rows ps x2 y14 y15 y16 y17 (.sh (.int (up : Nat))) x19 x20 x21 x22 x23 x24) S = .ok (.nx (E5 ns b rows ps x2 z14 y15 y16 y17 (.sh (.int (up : Nat))) z19 z20 x21 x22 x23 x24)) S := by
  have hb := c.b10
  have hs : Small (b : Int) := small_nat (by omega)
  have hr : Rng62 (up : Int) := rng62 (by omega)
  obtain ⟨ρ', S', hf, z14, rfl, rfl⟩ := forL_range (g := gN 14) (body := sSeq (sPar [(19, false), (20, false)] (rCons (eBin .mul (eBin .mul (eV true 19) (eV true 4)) (eV true 4)) (rCons (eBin .mul (eV true 20) (eV true 4)) (rNil)))) (sNil))
    (fun j ρ S' => ∃ z14, ρ = E5 ns b rows ps x2 z14 y15 y16 y17 (.sh (.int (up : Nat))) (.sh (.int (((b * b) ^ j : Nat) : Int))) (.sh (.int ((b ^ j : Nat) : Int))) x21 x22 x23 x24 ∧ S' = S) 0 up
    (E5 ns b rows ps x2 y14 y15 y16 y17 (.sh (.int (up : Nat))) (.sh (.int 1)) (.sh (.int 1)) x21 x22 x23 x24) S ⟨y14, rfl, rfl⟩ (by
    rintro j ρ S' hj ⟨z14, rfl, rfl⟩
    refine ⟨E5 ns b rows ps x2 (.sh (.int (0 + (j : Int)))) y15 y16 y17 (.sh (.int (up : Nat))) (.sh (.int (((b * b) ^ j : Nat) : Int))) (.sh (.int ((b ^ j : Nat) : Int))) x21 x22 x23 x24, E5 ns b rows ps x2 (.sh (.int (0 + (j : Int)))) y15 y16 y17 (.sh (.int (up : Nat))) (.sh (.int (((b * b) ^ (j + 1) : Nat) : Int))) (.sh (.int ((b ^ (j + 1) : Nat) : Int))) x21 x22 x23 x24, S', rfl, .inl ?_, _, rfl, rfl⟩
    unfold E5
    simp only [fnR, fnI, fin0, sSeq, sNil, sAsg, sAsgO, sPar, parE, slOf, sIf, sFor, sRet, sRetV, sRetN, sEx, sAug, augR, sAppend, sFrz, frzE, sSetFl, sDead, eC, eV, lookR, CC.e1, CC.e2, eBin, eNeg, eNot, eCmp, eChn, eAnd, eOr, eIf, aNil, aCons, pCons, rNil, rCons, eTup, eLst, eCell, eIx, oNo, oE, eSl, eRev, eAtt, eCall, eMk, eBt, eIsi, eIsc, eIndex, eComp, eLenset, tT, tNot, tAnd, tOr, tYes, gN, gNil, gCons, gT, iE, iK, iR1, iR2, iR3, iEnum, iEnumK, iZip, iZipK, itemsR, negR, revR, slR, kp_sh, kp_ow, okS, okO, Res.bind_ok, Res.bind_bad, truthR, binR, addR, subR, mulR, fdivR, modR, powR, cmpR, leR, ltR, isR, isNon, isiR, isTyp, tyIs, List.any, List.all, lenR, absR, minR, maxR, intR, boolR, listR, tupleR, List.set_cons_zero, List.set_cons_succ, List.getElem?_cons_zero, List.getElem?_cons_succ, List.length_cons, List.length_nil, List.map_cons, List.map_nil, List.replicate_zero, List.replicate_succ, List.cons_append, List.nil_append, List.append_nil, Nat.reduceAdd, Nat.reduceSub, Nat.reduceEqDiff, Nat.reduceMul, Nat.reduceLT, Nat.reduceLeDiff, Nat.zero_add, Option.bind_some, Option.map_some, if_true, if_false, ite_true, ite_false, reduceIte, reduceCtorEq, Bool.not_true, Bool.not_false, Bool.true_and, Bool.false_and, Bool.and_true, Bool.and_false, Bool.or_true, Bool.or_false, Bool.true_or, Bool.false_or, beq_self_eq_true, bne_self_eq_false, ne_eq, not_true_eq_false, not_false_eq_true, Option.some.injEq, Prod.mk.injEq, and_self, and_true, true_and, decide_true, decide_false, Bool.false_eq_true, hs, or_true]
    simp [Nat.pow_succ, Int.mul_assoc])
  refine ⟨z14, .sh (.int (((b * b) ^ up : Nat) : Int)), .sh (.int ((b ^ up : Nat) : Int)), ?_⟩
  have hq : ps.length - up ≤ ps.length := Nat.sub_le _ _
  have hqs := h.take (ps.length - up)
  have hql : (ps.take (ps.length - up)).length = ps.length - up := by rw [List.length_take]; omega
  have F := fun5 c hqs (by omega)
  have hsub : ((ps.length : Nat) : Int) - ((up : Nat) : Int) = (((ps.take (ps.length - up)).length : Nat) : Int) := by rw [hql]; omega
  have ct := cels_take c h (ps.length - up) hq
  rw [show ps.length - (ps.length - up) = up by omega] at ct
  have nt := num_take hb.2.2.2 h (ps.length - up) hq
  rw [show ps.length - (ps.length - up) = up by omega] at nt
  have dx : (((cels b rows ps).2.1 : Nat) : Int) / ((b ^ up : Nat) : Int) = (((cels b rows (ps.take (ps.length - up))).2.1 : Nat) : Int) := by rw [← Int.natCast_ediv, ct.1]
  have dy : (((cels b rows ps).2.2 : Nat) : Int) / ((b ^ up : Nat) : Int) = (((cels b rows (ps.take (ps.length - up))).2.2 : Nat) : Int) := by rw [← Int.natCast_ediv, ct.2]
  have dn : ((num (b * b) ps : Nat) : Int) / (((b * b) ^ up : Nat) : Int) = ((num (b * b) (ps.take (ps.length - up)) : Nat) : Int) := by rw [← Int.natCast_ediv, nt]
  have D1 : DivOk ((b ^ up : Nat) : Int) := divOk_pow hb.2.1 (by omega) (by omega)
  have D2 : DivOk (((b * b) ^ up : Nat) : Int) := divOk_pow hb.2.2.2 (by omega) (by omega)
  have ixs : ∀ S, ixR (.lst ((sts rows ps).map nI)) (.int (((ps.take (ps.length - up)).length : Nat) : Int)) S = .ok (.sh, .int (stp rows (ps.take (ps.length - up)) : Nat)) S := fun S => ix_lst (by rw [hql, List.getElem?_map, sts_get rows ps _ hq]; rfl) S
  have sd : ∀ (l : Nat), l ≤ 300 → ∀ S, F_side [cvD b rows, .int (l : Nat)] S = .ok (.sh, .int ((b ^ l : Nat) : Int)) S := fun l hl S => side_ok rows (show b < 100 by omega) l hl S
  have sm : ((b ^ up : Nat) : Int) * ((b ^ (ps.take (ps.length - up)).length : Nat) : Int) = ((b ^ ps.length : Nat) : Int) := by
    rw [← Int.natCast_mul, ← Nat.pow_add, hql, show up + (ps.length - up) = ps.length by omega]
  have smul : Small ((b ^ up : Nat) : Int) ∨ Small ((b ^ (ps.take (ps.length - up)).length : Nat) : Int) := by
    rcases hsm with q | q
    · refine .inl (small_nat ?_)
      have h1 : b ^ up ≤ 3 ^ 20 := Nat.le_trans (Nat.pow_le_pow_left (by rcases c.hb with rfl | rfl <;> decide) up) (Nat.pow_le_pow_right (by decide) q)
      exact Nat.lt_of_le_of_lt h1 (by decide)
    · refine .inr (small_nat ?_)
      rw [hql, q, Nat.sub_self, Nat.pow_zero]
      decide
  refine sx (ρ' := E5 ns b rows ps x2 y14 y15 y16 y17 (.sh (.int (up : Nat))) (.sh (.int 1)) (.sh (.int 1)) x21 x22 x23 x24) (S' := S') ?_ (sx (for_sx (xs := rangeD 0 up) (S1 := S') ?_ hf) (sx (if_nx (S' := S') ?_) (sx (if_nx (S' := S') ?_) rfl)))
  · unfold E5; simp only [fnR, fnI, fin0, sSeq, sNil, sAsg, sAsgO, sPar, parE, slOf, sIf, sFor, sRet, sRetV, sRetN, sEx, sAug, augR, sAppend, sFrz, frzE, sSetFl, sDead, eC, eV, lookR, CC.e1, CC.e2, eBin, eNeg, eNot, eCmp, eChn, eAnd, eOr, eIf, aNil, aCons, pCons, rNil, rCons, eTup, eLst, eCell, eIx, oNo, oE, eSl, eRev, eAtt, eCall, eMk, eBt, eIsi, eIsc, eIndex, eComp, eLenset, tT, tNot, tAnd, tOr, tYes, gN, gNil, gCons, gT, iE, iK, iR1, iR2, iR3, iEnum, iEnumK, iZip, iZipK, itemsR, negR, revR, slR, kp_sh, kp_ow, okS, okO, Res.bind_ok, Res.bind_bad, truthR, binR, addR, subR, mulR, fdivR, modR, powR, cmpR, leR, ltR, isR, isNon, isiR, isTyp, tyIs, List.any, List.all, lenR, absR, minR, maxR, intR, boolR, listR, tupleR, List.set_cons_zero, List.set_cons_succ, List.getElem?_cons_zero, List.getElem?_cons_succ, List.length_cons, List.length_nil, List.map_cons, List.map_nil, List.replicate_zero, List.replicate_succ, List.cons_append, List.nil_append, List.append_nil, Nat.reduceAdd, Nat.reduceSub, Nat.reduceEqDiff, Nat.reduceMul, Nat.reduceLT, Nat.reduceLeDiff, Nat.zero_add, Option.bind_some, Option.map_some, if_true, if_false, ite_true, ite_false, reduceIte, reduceCtorEq, Bool.not_true, Bool.not_false, Bool.true_and, Bool.false_and, Bool.and_true, Bool.and_false, Bool.or_true, Bool.or_false, Bool.true_or, Bool.false_or, beq_self_eq_true, bne_self_eq_false, ne_eq, not_true_eq_false, not_false_eq_true, Option.some.injEq, Prod.mk.injEq, and_self, and_true, true_and, decide_true, decide_false, Bool.false_eq_true]
  · unfold E5; simp only [fnR, fnI, fin0, sSeq, sNil, sAsg, sAsgO, sPar, parE, slOf, sIf, sFor, sRet, sRetV, sRetN, sEx, sAug, augR, sAppend, sFrz, frzE, sSetFl, sDead, eC, eV, lookR, CC.e1, CC.e2, eBin, eNeg, eNot, eCmp, eChn, eAnd, eOr, eIf, aNil, aCons, pCons, rNil, rCons, eTup, eLst, eCell, eIx, oNo, oE, eSl, eRev, eAtt, eCall, eMk, eBt, eIsi, eIsc, eIndex, eComp, eLenset, tT, tNot, tAnd, tOr, tYes, gN, gNil, gCons, gT, iE, iK, iR1, iR2, iR3, iEnum, iEnumK, iZip, iZipK, itemsR, negR, revR, slR, kp_sh, kp_ow, okS, okO, Res.bind_ok, Res.bind_bad, truthR, binR, addR, subR, mulR, fdivR, modR, powR, cmpR, leR, ltR, isR, isNon, isiR, isTyp, tyIs, List.any, List.all, lenR, absR, minR, maxR, intR, boolR, listR, tupleR, List.set_cons_zero, List.set_cons_succ, List.getElem?_cons_zero, List.getElem?_cons_succ, List.length_cons, List.length_nil, List.map_cons, List.map_nil, List.replicate_zero, List.replicate_succ, List.cons_append, List.nil_append, List.append_nil, Nat.reduceAdd, Nat.reduceSub, Nat.reduceEqDiff, Nat.reduceMul, Nat.reduceLT, Nat.reduceLeDiff, Nat.zero_add, Option.bind_some, Option.map_some, if_true, if_false, ite_true, ite_false, reduceIte, reduceCtorEq, Bool.not_true, Bool.not_false, Bool.true_and, Bool.false_and, Bool.and_true, Bool.and_false, Bool.or_true, Bool.or_false, Bool.true_or, Bool.false_or, beq_self_eq_true, bne_self_eq_false, ne_eq, not_true_eq_false, not_false_eq_true, Option.some.injEq, Prod.mk.injEq, and_self, and_true, true_and, decide_true, decide_false, Bool.false_eq_true, hr, Int.toNat_natCast]
  · refine or_ff (ne_ff (S1 := S') (S2 := S') (t1 := .sh) (t2 := .sh) (d := .int (num (b * b) (ps.take (ps.length - up)) : Nat)) ?_ ?_ rfl) (or_ff (ne_ff (S1 := S') (S2 := S') (t1 := .sh) (t2 := .sh) (d := .tup [nI (cels b rows (ps.take (ps.length - up))).2.1, nI (cels b rows (ps.take (ps.length - up))).2.2]) ?_ ?_ (good_pair _ _)) (or_ff (ne_ff (S1 := S') (S2 := S') (t1 := .sh) (t2 := .sh) (d := .int (stp rows (ps.take (ps.length - up)) : Nat)) ?_ ?_ rfl) (ne_ff (S1 := S') (S2 := S') (t1 := .sh) (t2 := .sh) (d := .int ((b ^ ps.length : Nat) : Int)) ?_ ?_ rfl)))
    · unfold E5; simp only [fnR, fnI, fin0, sSeq, sNil, sAsg, sAsgO, sPar, parE, slOf, sIf, sFor, sRet, sRetV, sRetN, sEx, sAug, augR, sAppend, sFrz, frzE, sSetFl, sDead, eC, eV, lookR, CC.e1, CC.e2, eBin, eNeg, eNot, eCmp, eChn, eAnd, eOr, eIf, aNil, aCons, pCons, rNil, rCons, eTup, eLst, eCell, eIx, oNo, oE, eSl, eRev, eAtt, eCall, eMk, eBt, eIsi, eIsc, eIndex, eComp, eLenset, tT, tNot, tAnd, tOr, tYes, gN, gNil, gCons, gT, iE, iK, iR1, iR2, iR3, iEnum, iEnumK, iZip, iZipK, itemsR, negR, revR, slR, kp_sh, kp_ow, okS, okO, Res.bind_ok, Res.bind_bad, truthR, binR, addR, subR, mulR, fdivR, modR, powR, cmpR, leR, ltR, isR, isNon, isiR, isTyp, tyIs, List.any, List.all, lenR, absR, minR, maxR, intR, boolR, listR, tupleR, List.set_cons_zero, List.set_cons_succ, List.getElem?_cons_zero, List.getElem?_cons_succ, List.length_cons, List.length_nil, List.map_cons, List.map_nil, List.replicate_zero, List.replicate_succ, List.cons_append, List.nil_append, List.append_nil, Nat.reduceAdd, Nat.reduceSub, Nat.reduceEqDiff, Nat.reduceMul, Nat.reduceLT, Nat.reduceLeDiff, Nat.zero_add, Option.bind_some, Option.map_some, if_true, if_false, ite_true, ite_false, reduceIte, reduceCtorEq, Bool.not_true, Bool.not_false, Bool.true_and, Bool.false_and, Bool.and_true, Bool.and_false, Bool.or_true, Bool.or_false, Bool.true_or, Bool.false_or, beq_self_eq_true, bne_self_eq_false, ne_eq, not_true_eq_false, not_false_eq_true, Option.some.injEq, Prod.mk.injEq, and_self, and_true, true_and, decide_true, decide_false, Bool.false_eq_true, hsub, D1, dx, dy, F.num]
    · unfold E5; simp only [fnR, fnI, fin0, sSeq, sNil, sAsg, sAsgO, sPar, parE, slOf, sIf, sFor, sRet, sRetV, sRetN, sEx, sAug, augR, sAppend, sFrz, frzE, sSetFl, sDead, eC, eV, lookR, CC.e1, CC.e2, eBin, eNeg, eNot, eCmp, eChn, eAnd, eOr, eIf, aNil, aCons, pCons, rNil, rCons, eTup, eLst, eCell, eIx, oNo, oE, eSl, eRev, eAtt, eCall, eMk, eBt, eIsi, eIsc, eIndex, eComp, eLenset, tT, tNot, tAnd, tOr, tYes, gN, gNil, gCons, gT, iE, iK, iR1, iR2, iR3, iEnum, iEnumK, iZip, iZipK, itemsR, negR, revR, slR, kp_sh, kp_ow, okS, okO, Res.bind_ok, Res.bind_bad, truthR, binR, addR, subR, mulR, fdivR, modR, powR, cmpR, leR, ltR, isR, isNon, isiR, isTyp, tyIs, List.any, List.all, lenR, absR, minR, maxR, intR, boolR, listR, tupleR, List.set_cons_zero, List.set_cons_succ, List.getElem?_cons_zero, List.getElem?_cons_succ, List.length_cons, List.length_nil, List.map_cons, List.map_nil, List.replicate_zero, List.replicate_succ, List.cons_append, List.nil_append, List.append_nil, Nat.reduceAdd, Nat.reduceSub, Nat.reduceEqDiff, Nat.reduceMul, Nat.reduceLT, Nat.reduceLeDiff, Nat.zero_add, Option.bind_some, Option.map_some, if_true, if_false, ite_true, ite_false, reduceIte, reduceCtorEq, Bool.not_true, Bool.not_false, Bool.true_and, Bool.false_and, Bool.and_true, Bool.and_false, Bool.or_true, Bool.or_false, Bool.true_or, Bool.false_or, beq_self_eq_true, bne_self_eq_false, ne_eq, not_true_eq_false, not_false_eq_true, Option.some.injEq, Prod.mk.injEq, and_self, and_true, true_and, decide_true, decide_false, Bool.false_eq_true, D2, dn]
    · unfold E5; simp only [fnR, fnI, fin0, sSeq, sNil, sAsg, sAsgO, sPar, parE, slOf, sIf, sFor, sRet, sRetV, sRetN, sEx, sAug, augR, sAppend, sFrz, frzE, sSetFl, sDead, eC, eV, lookR, CC.e1, CC.e2, eBin, eNeg, eNot, eCmp, eChn, eAnd, eOr, eIf, aNil, aCons, pCons, rNil, rCons, eTup, eLst, eCell, eIx, oNo, oE, eSl, eRev, eAtt, eCall, eMk, eBt, eIsi, eIsc, eIndex, eComp, eLenset, tT, tNot, tAnd, tOr, tYes, gN, gNil, gCons, gT, iE, iK, iR1, iR2, iR3, iEnum, iEnumK, iZip, iZipK, itemsR, negR, revR, slR, kp_sh, kp_ow, okS, okO, Res.bind_ok, Res.bind_bad, truthR, binR, addR, subR, mulR, fdivR, modR, powR, cmpR, leR, ltR, isR, isNon, isiR, isTyp, tyIs, List.any, List.all, lenR, absR, minR, maxR, intR, boolR, listR, tupleR, List.set_cons_zero, List.set_cons_succ, List.getElem?_cons_zero, List.getElem?_cons_succ, List.length_cons, List.length_nil, List.map_cons, List.map_nil, List.replicate_zero, List.replicate_succ, List.cons_append, List.nil_append, List.append_nil, Nat.reduceAdd, Nat.reduceSub, Nat.reduceEqDiff, Nat.reduceMul, Nat.reduceLT, Nat.reduceLeDiff, Nat.zero_add, Option.bind_some, Option.map_some, if_true, if_false, ite_true, ite_false, reduceIte, reduceCtorEq, Bool.not_true, Bool.not_false, Bool.true_and, Bool.false_and, Bool.and_true, Bool.and_false, Bool.or_true, Bool.or_false, Bool.true_or, Bool.false_or, beq_self_eq_true, bne_self_eq_false, ne_eq, not_true_eq_false, not_false_eq_true, Option.some.injEq, Prod.mk.injEq, and_self, and_true, true_and, decide_true, decide_false, Bool.false_eq_true, hsub, D2, dn, F.cell]
    · unfold E5; simp only [fnR, fnI, fin0, sSeq, sNil, sAsg, sAsgO, sPar, parE, slOf, sIf, sFor, sRet, sRetV, sRetN, sEx, sAug, augR, sAppend, sFrz, frzE, sSetFl, sDead, eC, eV, lookR, CC.e1, CC.e2, eBin, eNeg, eNot, eCmp, eChn, eAnd, eOr, eIf, aNil, aCons, pCons, rNil, rCons, eTup, eLst, eCell, eIx, oNo, oE, eSl, eRev, eAtt, eCall, eMk, eBt, eIsi, eIsc, eIndex, eComp, eLenset, tT, tNot, tAnd, tOr, tYes, gN, gNil, gCons, gT, iE, iK, iR1, iR2, iR3, iEnum, iEnumK, iZip, iZipK, itemsR, negR, revR, slR, kp_sh, kp_ow, okS, okO, Res.bind_ok, Res.bind_bad, truthR, binR, addR, subR, mulR, fdivR, modR, powR, cmpR, leR, ltR, isR, isNon, isiR, isTyp, tyIs, List.any, List.all, lenR, absR, minR, maxR, intR, boolR, listR, tupleR, List.set_cons_zero, List.set_cons_succ, List.getElem?_cons_zero, List.getElem?_cons_succ, List.length_cons, List.length_nil, List.map_cons, List.map_nil, List.replicate_zero, List.replicate_succ, List.cons_append, List.nil_append, List.append_nil, Nat.reduceAdd, Nat.reduceSub, Nat.reduceEqDiff, Nat.reduceMul, Nat.reduceLT, Nat.reduceLeDiff, Nat.zero_add, Option.bind_some, Option.map_some, if_true, if_false, ite_true, ite_false, reduceIte, reduceCtorEq, Bool.not_true, Bool.not_false, Bool.true_and, Bool.false_and, Bool.and_true, Bool.and_false, Bool.or_true, Bool.or_false, Bool.true_or, Bool.false_or, beq_self_eq_true, bne_self_eq_false, ne_eq, not_true_eq_false, not_false_eq_true, Option.some.injEq, Prod.mk.injEq, and_self, and_true, true_and, decide_true, decide_false, Bool.false_eq_true, D1, dx, dy, if_pos (show 2 ≤ szLine by decide)]; rfl
    · unfold E5; simp only [fnR, fnI, fin0, sSeq, sNil, sAsg, sAsgO, sPar, parE, slOf, sIf, sFor, sRet, sRetV, sRetN, sEx, sAug, augR, sAppend, sFrz, frzE, sSetFl, sDead, eC, eV, lookR, CC.e1, CC.e2, eBin, eNeg, eNot, eCmp, eChn, eAnd, eOr, eIf, aNil, aCons, pCons, rNil, rCons, eTup, eLst, eCell, eIx, oNo, oE, eSl, eRev, eAtt, eCall, eMk, eBt, eIsi, eIsc, eIndex, eComp, eLenset, tT, tNot, tAnd, tOr, tYes, gN, gNil, gCons, gT, iE, iK, iR1, iR2, iR3, iEnum, iEnumK, iZip, iZipK, itemsR, negR, revR, slR, kp_sh, kp_ow, okS, okO, Res.bind_ok, Res.bind_bad, truthR, binR, addR, subR, mulR, fdivR, modR, powR, cmpR, leR, ltR, isR, isNon, isiR, isTyp, tyIs, List.any, List.all, lenR, absR, minR, maxR, intR, boolR, listR, tupleR, List.set_cons_zero, List.set_cons_succ, List.getElem?_cons_zero, List.getElem?_cons_succ, List.length_cons, List.length_nil, List.map_cons, List.map_nil, List.replicate_zero, List.replicate_succ, List.cons_append, List.nil_append, List.append_nil, Nat.reduceAdd, Nat.reduceSub, Nat.reduceEqDiff, Nat.reduceMul, Nat.reduceLT, Nat.reduceLeDiff, Nat.zero_add, Option.bind_some, Option.map_some, if_true, if_false, ite_true, ite_false, reduceIte, reduceCtorEq, Bool.not_true, Bool.not_false, Bool.true_and, Bool.false_and, Bool.and_true, Bool.and_false, Bool.or_true, Bool.or_false, Bool.true_or, Bool.false_or, beq_self_eq_true, bne_self_eq_false, ne_eq, not_true_eq_false, not_false_eq_true, Option.some.injEq, Prod.mk.injEq, and_self, and_true, true_and, decide_true, decide_false, Bool.false_eq_true, hsub, D2, dn, F.st]
    · unfold E5; simp only [fnR, fnI, fin0, sSeq, sNil, sAsg, sAsgO, sPar, parE, slOf, sIf, sFor, sRet, sRetV, sRetN, sEx, sAug, augR, sAppend, sFrz, frzE, sSetFl, sDead, eC, eV, lookR, CC.e1, CC.e2, eBin, eNeg, eNot, eCmp, eChn, eAnd, eOr, eIf, aNil, aCons, pCons, rNil, rCons, eTup, eLst, eCell, eIx, oNo, oE, eSl, eRev, eAtt, eCall, eMk, eBt, eIsi, eIsc, eIndex, eComp, eLenset, tT, tNot, tAnd, tOr, tYes, gN, gNil, gCons, gT, iE, iK, iR1, iR2, iR3, iEnum, iEnumK, iZip, iZipK, itemsR, negR, revR, slR, kp_sh, kp_ow, okS, okO, Res.bind_ok, Res.bind_bad, truthR, binR, addR, subR, mulR, fdivR, modR, powR, cmpR, leR, ltR, isR, isNon, isiR, isTyp, tyIs, List.any, List.all, lenR, absR, minR, maxR, intR, boolR, listR, tupleR, List.set_cons_zero, List.set_cons_succ, List.getElem?_cons_zero, List.getElem?_cons_succ, List.length_cons, List.length_nil, List.map_cons, List.map_nil, List.replicate_zero, List.replicate_succ, List.cons_append, List.nil_append, List.append_nil, Nat.reduceAdd, Nat.reduceSub, Nat.reduceEqDiff, Nat.reduceMul, Nat.reduceLT, Nat.reduceLeDiff, Nat.zero_add, Option.bind_some, Option.map_some, if_true, if_false, ite_true, ite_false, reduceIte, reduceCtorEq, Bool.not_true, Bool.not_false, Bool.true_and, Bool.false_and, Bool.and_true, Bool.and_false, Bool.or_true, Bool.or_false, Bool.true_or, Bool.false_or, beq_self_eq_true, bne_self_eq_false, ne_eq, not_true_eq_false, not_false_eq_true, Option.some.injEq, Prod.mk.injEq, and_self, and_true, true_and, decide_true, decide_false, Bool.false_eq_true, hsub, ixs]
    · unfold E5; simp only [fnR, fnI, fin0, sSeq, sNil, sAsg, sAsgO, sPar, parE, slOf, sIf, sFor, sRet, sRetV, sRetN, sEx, sAug, augR, sAppend, sFrz, frzE, sSetFl, sDead, eC, eV, lookR, CC.e1, CC.e2, eBin, eNeg, eNot, eCmp, eChn, eAnd, eOr, eIf, aNil, aCons, pCons, rNil, rCons, eTup, eLst, eCell, eIx, oNo, oE, eSl, eRev, eAtt, eCall, eMk, eBt, eIsi, eIsc, eIndex, eComp, eLenset, tT, tNot, tAnd, tOr, tYes, gN, gNil, gCons, gT, iE, iK, iR1, iR2, iR3, iEnum, iEnumK, iZip, iZipK, itemsR, negR, revR, slR, kp_sh, kp_ow, okS, okO, Res.bind_ok, Res.bind_bad, truthR, binR, addR, subR, mulR, fdivR, modR, powR, cmpR, leR, ltR, isR, isNon, isiR, isTyp, tyIs, List.any, List.all, lenR, absR, minR, maxR, intR, boolR, listR, tupleR, List.set_cons_zero, List.set_cons_succ, List.getElem?_cons_zero, List.getElem?_cons_succ, List.length_cons, List.length_nil, List.map_cons, List.map_nil, List.replicate_zero, List.replicate_succ, List.cons_append, List.nil_append, List.append_nil, Nat.reduceAdd, Nat.reduceSub, Nat.reduceEqDiff, Nat.reduceMul, Nat.reduceLT, Nat.reduceLeDiff, Nat.zero_add, Option.bind_some, Option.map_some, if_true, if_false, ite_true, ite_false, reduceIte, reduceCtorEq, Bool.not_true, Bool.not_false, Bool.true_and, Bool.false_and, Bool.and_true, Bool.and_false, Bool.or_true, Bool.or_false, Bool.true_or, Bool.false_or, beq_self_eq_true, bne_self_eq_false, ne_eq, not_true_eq_false, not_false_eq_true, Option.some.injEq, Prod.mk.injEq, and_self, and_true, true_and, decide_true, decide_false, Bool.false_eq_true, sd ps.length (by omega)]
    · unfold E5; simp only [fnR, fnI, fin0, sSeq, sNil, sAsg, sAsgO, sPar, parE, slOf, sIf, sFor, sRet, sRetV, sRetN, sEx, sAug, augR, sAppend, sFrz, frzE, sSetFl, sDead, eC, eV, lookR, CC.e1, CC.e2, eBin, eNeg, eNot, eCmp, eChn, eAnd, eOr, eIf, aNil, aCons, pCons, rNil, rCons, eTup, eLst, eCell, eIx, oNo, oE, eSl, eRev, eAtt, eCall, eMk, eBt, eIsi, eIsc, eIndex, eComp, eLenset, tT, tNot, tAnd, tOr, tYes, gN, gNil, gCons, gT, iE, iK, iR1, iR2, iR3, iEnum, iEnumK, iZip, iZipK, itemsR, negR, revR, slR, kp_sh, kp_ow, okS, okO, Res.bind_ok, Res.bind_bad, truthR, binR, addR, subR, mulR, fdivR, modR, powR, cmpR, leR, ltR, isR, isNon, isiR, isTyp, tyIs, List.any, List.all, lenR, absR, minR, maxR, intR, boolR, listR, tupleR, List.set_cons_zero, List.set_cons_succ, List.getElem?_cons_zero, List.getElem?_cons_succ, List.length_cons, List.length_nil, List.map_cons, List.map_nil, List.replicate_zero, List.replicate_succ, List.cons_append, List.nil_append, List.append_nil, Nat.reduceAdd, Nat.reduceSub, Nat.reduceEqDiff, Nat.reduceMul, Nat.reduceLT, Nat.reduceLeDiff, Nat.zero_add, Option.bind_some, Option.map_some, if_true, if_false, ite_true, ite_false, reduceIte, reduceCtorEq, Bool.not_true, Bool.not_false, Bool.true_and, Bool.false_and, Bool.and_true, Bool.and_false, Bool.or_true, Bool.or_false, Bool.true_or, Bool.false_or, beq_self_eq_true, bne_self_eq_false, ne_eq, not_true_eq_false, not_false_eq_true, Option.some.injEq, Prod.mk.injEq, and_self, and_true, true_and, decide_true, decide_false, Bool.false_eq_true, hsub, sd (ps.take (ps.length - up)).length (by omega), sm, if_pos smul]
  · refine ne_ff (S1 := S') (S2 := S') (t1 := .ow) (t2 := .ow) (d := .lst ((ps.take (ps.length - up)).map nI)) ?_ ?_ (good_nats _)
    · unfold E5; simp only [fnR, fnI, fin0, sSeq, sNil, sAsg, sAsgO, sPar, parE, slOf, sIf, sFor, sRet, sRetV, sRetN, sEx, sAug, augR, sAppend, sFrz, frzE, sSetFl, sDead, eC, eV, lookR, CC.e1, CC.e2, eBin, eNeg, eNot, eCmp, eChn, eAnd, eOr, eIf, aNil, aCons, pCons, rNil, rCons, eTup, eLst, eCell, eIx, oNo, oE, eSl, eRev, eAtt, eCall, eMk, eBt, eIsi, eIsc, eIndex, eComp, eLenset, tT, tNot, tAnd, tOr, tYes, gN, gNil, gCons, gT, iE, iK, iR1, iR2, iR3, iEnum, iEnumK, iZip, iZipK, itemsR, negR, revR, slR, kp_sh, kp_ow, okS, okO, Res.bind_ok, Res.bind_bad, truthR, binR, addR, subR, mulR, fdivR, modR, powR, cmpR, leR, ltR, isR, isNon, isiR, isTyp, tyIs, List.any, List.all, lenR, absR, minR, maxR, intR, boolR, listR, tupleR, List.set_cons_zero, List.set_cons_succ, List.getElem?_cons_zero, List.getElem?_cons_succ, List.length_cons, List.length_nil, List.map_cons, List.map_nil, List.replicate_zero, List.replicate_succ, List.cons_append, List.nil_append, List.append_nil, Nat.reduceAdd, Nat.reduceSub, Nat.reduceEqDiff, Nat.reduceMul, Nat.reduceLT, Nat.reduceLeDiff, Nat.zero_add, Option.bind_some, Option.map_some, if_true, if_false, ite_true, ite_false, reduceIte, reduceCtorEq, Bool.not_true, Bool.not_false, Bool.true_and, Bool.false_and, Bool.and_true, Bool.and_false, Bool.or_true, Bool.or_false, Bool.true_or, Bool.false_or, beq_self_eq_true, bne_self_eq_false, ne_eq, not_true_eq_false, not_false_eq_true, Option.some.injEq, Prod.mk.injEq, and_self, and_true, true_and, decide_true, decide_false, Bool.false_eq_true, hsub, D2, dn, F.pl]
    · unfold E5; simp only [fnR, fnI, fin0, sSeq, sNil, sAsg, sAsgO, sPar, parE, slOf, sIf, sFor, sRet, sRetV, sRetN, sEx, sAug, augR, sAppend, sFrz, frzE, sSetFl, sDead, eC, eV, lookR, CC.e1, CC.e2, eBin, eNeg, eNot, eCmp, eChn, eAnd, eOr, eIf, aNil, aCons, pCons, rNil, rCons, eTup, eLst, eCell, eIx, oNo, oE, eSl, eRev, eAtt, eCall, eMk, eBt, eIsi, eIsc, eIndex, eComp, eLenset, tT, tNot, tAnd, tOr, tYes, gN, gNil, gCons, gT, iE, iK, iR1, iR2, iR3, iEnum, iEnumK, iZip, iZipK, itemsR, negR, revR, slR, kp_sh, kp_ow, okS, okO, Res.bind_ok, Res.bind_bad, truthR, binR, addR, subR, mulR, fdivR, modR, powR, cmpR, leR, ltR, isR, isNon, isiR, isTyp, tyIs, List.any, List.all, lenR, absR, minR, maxR, intR, boolR, listR, tupleR, List.set_cons_zero, List.set_cons_succ, List.getElem?_cons_zero, List.getElem?_cons_succ, List.length_cons, List.length_nil, List.map_cons, List.map_nil, List.replicate_zero, List.replicate_succ, List.cons_append, List.nil_append, List.append_nil, Nat.reduceAdd, Nat.reduceSub, Nat.reduceEqDiff, Nat.reduceMul, Nat.reduceLT, Nat.reduceLeDiff, Nat.zero_add, Option.bind_some, Option.map_some, if_true, if_false, ite_true, ite_false, reduceIte, reduceCtorEq, Bool.not_true, Bool.not_false, Bool.true_and, Bool.false_and, Bool.and_true, Bool.and_false, Bool.or_true, Bool.or_false, Bool.true_or, Bool.false_or, beq_self_eq_true, bne_self_eq_false, ne_eq, not_true_eq_false, not_false_eq_true, Option.some.injEq, Prod.mk.injEq, and_self, and_true, true_and, decide_true, decide_false, Bool.false_eq_true, hsub]
      rw [cut_take _ _ (by rw [hql, List.length_map]; omega), hql, List.map_take]
end CC.K26
end

section
namespace CC.K26
open CC PySem
theorem init_last {ps : List Nat} (h : 1 ≤ ps.length) : ∃ qs p, ps = qs ++ [p] := by
  rcases List.eq_nil_or_concat ps with q | ⟨qs, p, q⟩
  · rw [q] at h; simp at h
  · exact ⟨qs, p, by rw [q]; simp⟩
def cellP (b X Y : Nat) (q : Nat) : Int × Int := (((X * b + q % b : Nat) : Int), ((Y * b + q / b : Nat) : Int))
/-- the cells of one part, in either order -/
theorem near_ok (ns : List Int) {b : Nat} {rows : Rows} (c : Cv b rows) {qs : List Nat} {p0 : Nat} (h : Pl b (qs ++ [p0])) (hl : (qs ++ [p0]).length ≤ 300) (x2 y14 y15 y16 y17 x18 x19 x20 x21 x22 x23 x24 : Sl) (S : Sto) :
    ∃ d : D, good d = true ∧
    eBt sortedR (pCons (eComp (eBt tupleR (pCons (eCall F_cell_of (aCons (eV false 6) (aCons (eV false 7) (aCons (eBin .add (eV true 21) (eV true 15)) (aNil))))) (aNil))) (gN 15) (iR1 (eBin .mul (eV true 4) (eV true 4))) (tYes)) (aNil)) (E5 ns b rows (qs ++ [p0]) x2 y14 y15 y16 y17 x18 x19 x20 (.sh (.int ((num (b * b) qs * (b * b) : Nat) : Int))) x22 x23 x24) S = .ok (.ow, d) S ∧
    ∀ x22, eBt sortedR (pCons (eComp (eTup (aCons (eBin .add (eBin .sub (eV true 10) (eBin .mod (eV true 10) (eV true 4))) (eBin .mod (eV true 16) (eV true 4))) (aCons (eBin .add (eBin .sub (eV true 11) (eBin .mod (eV true 11) (eV true 4))) (eBin .fdiv (eV true 16) (eV true 4))) (aNil)))) (gN 16) (iR1 (eBin .mul (eV true 4) (eV true 4))) (tYes)) (aNil)) (E5 ns b rows (qs ++ [p0]) x2 y14 y15 y16 y17 x18 x19 x20 (.sh (.int ((num (b * b) qs * (b * b) : Nat) : Int))) x22 x23 x24) S = .ok (.ow, d) S := by
  have hb := c.b10
  have hs : Small (b : Int) := small_nat (by omega)
  have hB : (0 : Int) < (b : Int) := by omega
  have hD : DivOk (b : Int) := divOk_lit (by omega) (by omega)
  have em : ((b : Nat) : Int) * ((b : Nat) : Int) = ((b * b : Nat) : Int) := by simp
  have hr : Rng62 ((b * b : Nat) : Int) := rng62 (by omega)
  have hq : Pl b qs := fun p hp => h p (List.mem_append_left _ hp)
  have hst := stp_lt c hq
  have hp0 := part_lt c hst (h p0 (List.mem_append_right _ (List.mem_singleton.mpr rfl)))
  have hrow : rows[stp rows qs]? = some rows[stp rows qs] := List.getElem?_eq_getElem hst
  have hm : rows[stp rows qs] ∈ rows := List.getElem_mem hst
  have hlen := c.len _ hm
  have hnd := c.nd _ hm
  have hz : (rangeD 0 (b * b)).length ≤ szLine := szl _ (by rw [rangeD_len]; omega)
  let X := (cels b rows qs).2.1
  let Y := (cels b rows qs).2.2
  have e1 : (cels b rows (qs ++ [p0])).2.1 = X * b + (at_ rows (stp rows qs) p0).1 % b := by rw [cels_snoc]; unfold cel; rw [cels_st]
  have e2 : (cels b rows (qs ++ [p0])).2.2 = Y * b + (at_ rows (stp rows qs) p0).1 / b := by rw [cels_snoc]; unfold cel; rw [cels_st]
  have perm : ((List.range (b * b)).map fun p => (at_ rows (stp rows qs) p).1).Perm (List.range (b * b)) := by
    have e : ((List.range (b * b)).map fun p => (at_ rows (stp rows qs) p).1) = rows[stp rows qs].map (·.1) := by
      apply List.ext_getElem?
      intro i
      rw [List.getElem?_map, List.getElem?_map]
      by_cases hi : i < b * b
      · rw [List.getElem?_range hi]
        obtain ⟨r, _, g1, g2, _⟩ := c.get hst hi
        rw [hrow] at g1; cases g1
        rw [g2]; rfl
      · rw [List.getElem?_eq_none (by simpa using hi), List.getElem?_eq_none (by rw [hlen]; omega)]
        rfl
    rw [e]
    refine perm_range _ _ hnd (by rw [List.length_map, hlen]) fun x hx => ?_
    obtain ⟨q, hq, rfl⟩ := List.mem_map.mp hx
    exact (c.lt _ hm q hq).1
  have ne1 : (List.range (b * b)).map (cellP b X Y) ≠ [] := by
    intro e
    have := congrArg List.length e
    simp at this
    omega
  have ne2 : ((List.range (b * b)).map fun p => (at_ rows (stp rows qs) p).1).map (cellP b X Y) ≠ [] := by
    intro e
    have := congrArg List.length e
    simp at this
    omega
  have cm : ∀ (f : D → D) (g : Nat → Int × Int), (∀ i : Nat, i < b * b → f (.int (i : Nat)) = ofPr (g i)) → (rangeD 0 (b * b)).map f = ((List.range (b * b)).map g).map ofPr := fun f g hfg => by
    unfold rangeD
    rw [List.map_map, List.map_map]
    apply List.map_congr_left
    intro i hi
    have := hfg i (List.mem_range.mp hi)
    simpa using this
  refine ⟨.lst ((isort leP ((List.range (b * b)).map (cellP b X Y))).map ofPr), good_lst ofPr 1 (fun _ => rfl) (fun _ => Nat.le_refl _) (by omega) _, ?_, fun x22 => ?_⟩
  · have h1 : eComp (eBt tupleR (pCons (eCall F_cell_of (aCons (eV false 6) (aCons (eV false 7) (aCons (eBin .add (eV true 21) (eV true 15)) (aNil))))) (aNil))) (gN 15) (iR1 (eBin .mul (eV true 4) (eV true 4))) (tYes) (E5 ns b rows (qs ++ [p0]) x2 y14 y15 y16 y17 x18 x19 x20 (.sh (.int ((num (b * b) qs * (b * b) : Nat) : Int))) x22 x23 x24) S = .ok (.ow, .lst ((((List.range (b * b)).map fun p => (at_ rows (stp rows qs) p).1).map (cellP b X Y)).map ofPr)) S := by
      refine comp_ok (xs := rangeD 0 (b * b)) (S1 := S) ?_ ?_ hz
      · unfold E5; simp only [fnR, fnI, fin0, sSeq, sNil, sAsg, sAsgO, sPar, parE, slOf, sIf, sFor, sRet, sRetV, sRetN, sEx, sAug, augR, sAppend, sFrz, frzE, sSetFl, sDead, eC, eV, lookR, CC.e1, CC.e2, eBin, eNeg, eNot, eCmp, eChn, eAnd, eOr, eIf, aNil, aCons, pCons, rNil, rCons, eTup, eLst, eCell, eIx, oNo, oE, eSl, eRev, eAtt, eCall, eMk, eBt, eIsi, eIsc, eIndex, eComp, eLenset, tT, tNot, tAnd, tOr, tYes, gN, gNil, gCons, gT, iE, iK, iR1, iR2, iR3, iEnum, iEnumK, iZip, iZipK, itemsR, negR, revR, slR, kp_sh, kp_ow, okS, okO, Res.bind_ok, Res.bind_bad, truthR, binR, addR, subR, mulR, fdivR, modR, powR, cmpR, leR, ltR, isR, isNon, isiR, isTyp, tyIs, List.any, List.all, lenR, absR, minR, maxR, intR, boolR, listR, tupleR, List.set_cons_zero, List.set_cons_succ, List.getElem?_cons_zero, List.getElem?_cons_succ, List.length_cons, List.length_nil, List.map_cons, List.map_nil, List.replicate_zero, List.replicate_succ, List.cons_append, List.nil_append, List.append_nil, Nat.reduceAdd, Nat.reduceSub, Nat.reduceEqDiff, Nat.reduceMul, Nat.reduceLT, Nat.reduceLeDiff, Nat.zero_add, Option.bind_some, Option.map_some, if_true, if_false, ite_true, ite_false, reduceIte, reduceCtorEq, Bool.not_true, Bool.not_false, Bool.true_and, Bool.false_and, Bool.and_true, Bool.and_false, Bool.or_true, Bool.or_false, Bool.true_or, Bool.false_or, beq_self_eq_true, bne_self_eq_false, ne_eq, not_true_eq_false, not_false_eq_true, Option.some.injEq, Prod.mk.injEq, and_self, and_true, true_and, decide_true, decide_false, Bool.false_eq_true, hs, or_true, em, hr, Int.toNat_natCast]
      · refine compL_idx _ _ (by rw [rangeD_len]; simp) fun i d hd => ?_
        obtain ⟨hi, rfl⟩ := rangeD_get hd
        refine ⟨ofPr (cellP b X Y (at_ rows (stp rows qs) i).1), by rw [List.getElem?_map, List.getElem?_map, List.getElem?_map, List.getElem?_range hi]; rfl, ?_⟩
        have hP : Pl b (qs ++ [i]) := fun p hp => by
          rcases List.mem_append.mp hp with hp | hp
          · exact hq p hp
          · rw [List.mem_singleton.mp hp]; exact hi
        have hln : (qs ++ [i]).length = (qs ++ [p0]).length := by simp
        have F := fun5 c hP (by rw [hln]; exact hl)
        have hn : ((num (b * b) qs * (b * b) : Nat) : Int) + (0 + (i : Int)) = ((num (b * b) (qs ++ [i]) : Nat) : Int) := by rw [num_snoc]; simp
        have hc' := F.cell S
        rw [hln] at hc'
        unfold cBody E5
        simp only [fnR, fnI, fin0, sSeq, sNil, sAsg, sAsgO, sPar, parE, slOf, sIf, sFor, sRet, sRetV, sRetN, sEx, sAug, augR, sAppend, sFrz, frzE, sSetFl, sDead, eC, eV, lookR, CC.e1, CC.e2, eBin, eNeg, eNot, eCmp, eChn, eAnd, eOr, eIf, aNil, aCons, pCons, rNil, rCons, eTup, eLst, eCell, eIx, oNo, oE, eSl, eRev, eAtt, eCall, eMk, eBt, eIsi, eIsc, eIndex, eComp, eLenset, tT, tNot, tAnd, tOr, tYes, gN, gNil, gCons, gT, iE, iK, iR1, iR2, iR3, iEnum, iEnumK, iZip, iZipK, itemsR, negR, revR, slR, kp_sh, kp_ow, okS, okO, Res.bind_ok, Res.bind_bad, truthR, binR, addR, subR, mulR, fdivR, modR, powR, cmpR, leR, ltR, isR, isNon, isiR, isTyp, tyIs, List.any, List.all, lenR, absR, minR, maxR, intR, boolR, listR, tupleR, List.set_cons_zero, List.set_cons_succ, List.getElem?_cons_zero, List.getElem?_cons_succ, List.length_cons, List.length_nil, List.map_cons, List.map_nil, List.replicate_zero, List.replicate_succ, List.cons_append, List.nil_append, List.append_nil, Nat.reduceAdd, Nat.reduceSub, Nat.reduceEqDiff, Nat.reduceMul, Nat.reduceLT, Nat.reduceLeDiff, Nat.zero_add, Option.bind_some, Option.map_some, if_true, if_false, ite_true, ite_false, reduceIte, reduceCtorEq, Bool.not_true, Bool.not_false, Bool.true_and, Bool.false_and, Bool.and_true, Bool.and_false, Bool.or_true, Bool.or_false, Bool.true_or, Bool.false_or, beq_self_eq_true, bne_self_eq_false, ne_eq, not_true_eq_false, not_false_eq_true, Option.some.injEq, Prod.mk.injEq, and_self, and_true, true_and, decide_true, decide_false, Bool.false_eq_true, hn, hc']
        rw [cels_snoc]
        unfold cel
        rw [cels_st]
        rfl
    rw [bt1_ok h1 (sorted_pairs _ ne2 S), isort_leP_perm (perm.map (cellP b X Y))]
  · have h1 : eComp (eTup (aCons (eBin .add (eBin .sub (eV true 10) (eBin .mod (eV true 10) (eV true 4))) (eBin .mod (eV true 16) (eV true 4))) (aCons (eBin .add (eBin .sub (eV true 11) (eBin .mod (eV true 11) (eV true 4))) (eBin .fdiv (eV true 16) (eV true 4))) (aNil)))) (gN 16) (iR1 (eBin .mul (eV true 4) (eV true 4))) (tYes) (E5 ns b rows (qs ++ [p0]) x2 y14 y15 y16 y17 x18 x19 x20 (.sh (.int ((num (b * b) qs * (b * b) : Nat) : Int))) x22 x23 x24) S = .ok (.ow, .lst (((List.range (b * b)).map (cellP b X Y)).map ofPr)) S := by
      refine comp_ok (xs := rangeD 0 (b * b)) (S1 := S) ?_ ?_ hz
      · unfold E5; simp only [fnR, fnI, fin0, sSeq, sNil, sAsg, sAsgO, sPar, parE, slOf, sIf, sFor, sRet, sRetV, sRetN, sEx, sAug, augR, sAppend, sFrz, frzE, sSetFl, sDead, eC, eV, lookR, CC.e1, CC.e2, eBin, eNeg, eNot, eCmp, eChn, eAnd, eOr, eIf, aNil, aCons, pCons, rNil, rCons, eTup, eLst, eCell, eIx, oNo, oE, eSl, eRev, eAtt, eCall, eMk, eBt, eIsi, eIsc, eIndex, eComp, eLenset, tT, tNot, tAnd, tOr, tYes, gN, gNil, gCons, gT, iE, iK, iR1, iR2, iR3, iEnum, iEnumK, iZip, iZipK, itemsR, negR, revR, slR, kp_sh, kp_ow, okS, okO, Res.bind_ok, Res.bind_bad, truthR, binR, addR, subR, mulR, fdivR, modR, powR, cmpR, leR, ltR, isR, isNon, isiR, isTyp, tyIs, List.any, List.all, lenR, absR, minR, maxR, intR, boolR, listR, tupleR, List.set_cons_zero, List.set_cons_succ, List.getElem?_cons_zero, List.getElem?_cons_succ, List.length_cons, List.length_nil, List.map_cons, List.map_nil, List.replicate_zero, List.replicate_succ, List.cons_append, List.nil_append, List.append_nil, Nat.reduceAdd, Nat.reduceSub, Nat.reduceEqDiff, Nat.reduceMul, Nat.reduceLT, Nat.reduceLeDiff, Nat.zero_add, Option.bind_some, Option.map_some, if_true, if_false, ite_true, ite_false, reduceIte, reduceCtorEq, Bool.not_true, Bool.not_false, Bool.true_and, Bool.false_and, Bool.and_true, Bool.and_false, Bool.or_true, Bool.or_false, Bool.true_or, Bool.false_or, beq_self_eq_true, bne_self_eq_false, ne_eq, not_true_eq_false, not_false_eq_true, Option.some.injEq, Prod.mk.injEq, and_self, and_true, true_and, decide_true, decide_false, Bool.false_eq_true, hs, or_true, em, hr, Int.toNat_natCast]
      · refine compL_idx _ _ (by rw [rangeD_len]; simp) fun i d hd => ?_
        obtain ⟨hi, rfl⟩ := rangeD_get hd
        refine ⟨ofPr (cellP b X Y i), by rw [List.getElem?_map, List.getElem?_map, List.getElem?_range hi]; rfl, ?_⟩
        have mx : (((cels b rows (qs ++ [p0])).2.1 : Nat) : Int) - (((cels b rows (qs ++ [p0])).2.1 : Nat) : Int) % (b : Int) = ((X * b : Nat) : Int) := by
          rw [e1, ← Int.natCast_emod, Nat.mul_comm X b, Nat.mul_add_mod, Nat.mod_eq_of_lt hp0.1]; omega
        have my : (((cels b rows (qs ++ [p0])).2.2 : Nat) : Int) - (((cels b rows (qs ++ [p0])).2.2 : Nat) : Int) % (b : Int) = ((Y * b : Nat) : Int) := by
          rw [e2, ← Int.natCast_emod, Nat.mul_comm Y b, Nat.mul_add_mod, Nat.mod_eq_of_lt hp0.2]; omega
        unfold cBody E5
        simp only [fnR, fnI, fin0, sSeq, sNil, sAsg, sAsgO, sPar, parE, slOf, sIf, sFor, sRet, sRetV, sRetN, sEx, sAug, augR, sAppend, sFrz, frzE, sSetFl, sDead, eC, eV, lookR, CC.e1, CC.e2, eBin, eNeg, eNot, eCmp, eChn, eAnd, eOr, eIf, aNil, aCons, pCons, rNil, rCons, eTup, eLst, eCell, eIx, oNo, oE, eSl, eRev, eAtt, eCall, eMk, eBt, eIsi, eIsc, eIndex, eComp, eLenset, tT, tNot, tAnd, tOr, tYes, gN, gNil, gCons, gT, iE, iK, iR1, iR2, iR3, iEnum, iEnumK, iZip, iZipK, itemsR, negR, revR, slR, kp_sh, kp_ow, okS, okO, Res.bind_ok, Res.bind_bad, truthR, binR, addR, subR, mulR, fdivR, modR, powR, cmpR, leR, ltR, isR, isNon, isiR, isTyp, tyIs, List.any, List.all, lenR, absR, minR, maxR, intR, boolR, listR, tupleR, List.set_cons_zero, List.set_cons_succ, List.getElem?_cons_zero, List.getElem?_cons_succ, List.length_cons, List.length_nil, List.map_cons, List.map_nil, List.replicate_zero, List.replicate_succ, List.cons_append, List.nil_append, List.append_nil, Nat.reduceAdd, Nat.reduceSub, Nat.reduceEqDiff, Nat.reduceMul, Nat.reduceLT, Nat.reduceLeDiff, Nat.zero_add, Option.bind_some, Option.map_some, if_true, if_false, ite_true, ite_false, reduceIte, reduceCtorEq, Bool.not_true, Bool.not_false, Bool.true_and, Bool.false_and, Bool.and_true, Bool.and_false, Bool.or_true, Bool.or_false, Bool.true_or, Bool.false_or, beq_self_eq_true, bne_self_eq_false, ne_eq, not_true_eq_false, not_false_eq_true, Option.some.injEq, Prod.mk.injEq, and_self, and_true, true_and, decide_true, decide_false, Bool.false_eq_true, hB, hD, mx, my, if_pos (show 2 ≤ szLine by decide), Int.zero_add]
        unfold ofPr cellP
        simp
    exact bt1_ok h1 (sorted_pairs _ ne1 S)
theorem every_ok (ns : List Int) {b : Nat} {rows : Rows} (c : Cv b rows) {ps : List Nat} (L : Nat) (hL : L ≤ 2) (x2 y14 y15 y16 y17 x18 x19 x20 x21 x22 : Sl) (S : Sto) :
    tT (eBt anyR (pCons (eComp (eOr (eCmp .ne (eBt tupleR (pCons (eCall F_cell_of (aCons (eV false 6) (aCons (eV false 23) (aCons (eV false 25) (aNil))))) (aNil))) (eTup (aCons (eIx (eV true 26) (eC (.int 0))) (aCons (eIx (eV true 26) (eC (.int 1))) (aNil))))) (eOr (eCmp .ne (eCall F_state_of (aCons (eV false 6) (aCons (eV false 23) (aCons (eV false 25) (aNil))))) (eIx (eV true 26) (eC (.int 2)))) (eCmp .ne (eBt tupleR (pCons (eCall F_places_of (aCons (eV false 6) (aCons (eV false 23) (aCons (eV false 25) (aNil))))) (aNil))) (eIx (eV true 26) (eC (.int 3)))))) (gT (gCons (gN 25) (gCons (gN 26) (gNil)))) (iEnum (eV true 24)) (tYes)) (aNil)))
      (E5 ns b rows ps x2 y14 y15 y16 y17 x18 x19 x20 x21 x22 (.sh (.int (L : Nat))) (.sh (.lst ((pss (b * b) L).map (ent b rows))))) S = .ok false S := by
  have hb := c.b10
  have hlen : ((pss (b * b) L).map (ent b rows)).length ≤ 729 := by
    rw [List.length_map, pss_len]
    calc (b * b) ^ L ≤ 9 ^ L := Nat.pow_le_pow_left (by omega) _
      _ ≤ 9 ^ 2 := Nat.pow_le_pow_right (by decide) hL
      _ ≤ 729 := by decide
  refine any_ff (xs := enumD ((pss (b * b) L).map (ent b rows))) ?_ (fun x hx => ?_) (szl _ (by rw [enumD_len]; omega))
  · unfold E5; simp only [fnR, fnI, fin0, sSeq, sNil, sAsg, sAsgO, sPar, parE, slOf, sIf, sFor, sRet, sRetV, sRetN, sEx, sAug, augR, sAppend, sFrz, frzE, sSetFl, sDead, eC, eV, lookR, CC.e1, CC.e2, eBin, eNeg, eNot, eCmp, eChn, eAnd, eOr, eIf, aNil, aCons, pCons, rNil, rCons, eTup, eLst, eCell, eIx, oNo, oE, eSl, eRev, eAtt, eCall, eMk, eBt, eIsi, eIsc, eIndex, eComp, eLenset, tT, tNot, tAnd, tOr, tYes, gN, gNil, gCons, gT, iE, iK, iR1, iR2, iR3, iEnum, iEnumK, iZip, iZipK, itemsR, negR, revR, slR, kp_sh, kp_ow, okS, okO, Res.bind_ok, Res.bind_bad, truthR, binR, addR, subR, mulR, fdivR, modR, powR, cmpR, leR, ltR, isR, isNon, isiR, isTyp, tyIs, List.any, List.all, lenR, absR, minR, maxR, intR, boolR, listR, tupleR, List.set_cons_zero, List.set_cons_succ, List.getElem?_cons_zero, List.getElem?_cons_succ, List.length_cons, List.length_nil, List.map_cons, List.map_nil, List.replicate_zero, List.replicate_succ, List.cons_append, List.nil_append, List.append_nil, Nat.reduceAdd, Nat.reduceSub, Nat.reduceEqDiff, Nat.reduceMul, Nat.reduceLT, Nat.reduceLeDiff, Nat.zero_add, Option.bind_some, Option.map_some, if_true, if_false, ite_true, ite_false, reduceIte, reduceCtorEq, Bool.not_true, Bool.not_false, Bool.true_and, Bool.false_and, Bool.and_true, Bool.and_false, Bool.or_true, Bool.or_false, Bool.true_or, Bool.false_or, beq_self_eq_true, bne_self_eq_false, ne_eq, not_true_eq_false, not_false_eq_true, Option.some.injEq, Prod.mk.injEq, and_self, and_true, true_and, decide_true, decide_false, Bool.false_eq_true]
  · obtain ⟨j, hj, ej⟩ := List.mem_iff_getElem.mp hx
    have hj' : (enumD ((pss (b * b) L).map (ent b rows)))[j]? = some x := by rw [List.getElem?_eq_getElem hj, ej]
    obtain ⟨d, hd, rfl⟩ := enumD_get hj'
    rw [List.getElem?_map] at hd
    obtain ⟨qs, hqs, rfl⟩ := Option.map_eq_some_iff.mp hd
    obtain ⟨a1, a2, a3⟩ := pss_get hb.2.2.2 L j qs hqs
    have F := fun5 c (ps := qs) a3 (by omega)
    have f1 := F.cell S
    have f2 := F.st S
    have f3 := F.pl S
    rw [a1, a2] at f1 f2 f3
    have ff : ∀ (t : Tg) (e : EF) (ρ : Env), eOr e e ρ S = eOr e e ρ S := fun _ _ _ => rfl
    unfold cBody E5
    unfold ent
    simp only [fnR, fnI, fin0, sSeq, sNil, sAsg, sAsgO, sPar, parE, slOf, sIf, sFor, sRet, sRetV, sRetN, sEx, sAug, augR, sAppend, sFrz, frzE, sSetFl, sDead, eC, eV, lookR, CC.e1, CC.e2, eBin, eNeg, eNot, eCmp, eChn, eAnd, eOr, eIf, aNil, aCons, pCons, rNil, rCons, eTup, eLst, eCell, eIx, oNo, oE, eSl, eRev, eAtt, eCall, eMk, eBt, eIsi, eIsc, eIndex, eComp, eLenset, tT, tNot, tAnd, tOr, tYes, gN, gNil, gCons, gT, iE, iK, iR1, iR2, iR3, iEnum, iEnumK, iZip, iZipK, itemsR, negR, revR, slR, kp_sh, kp_ow, okS, okO, Res.bind_ok, Res.bind_bad, truthR, binR, addR, subR, mulR, fdivR, modR, powR, cmpR, leR, ltR, isR, isNon, isiR, isTyp, tyIs, List.any, List.all, lenR, absR, minR, maxR, intR, boolR, listR, tupleR, List.set_cons_zero, List.set_cons_succ, List.getElem?_cons_zero, List.getElem?_cons_succ, List.length_cons, List.length_nil, List.map_cons, List.map_nil, List.replicate_zero, List.replicate_succ, List.cons_append, List.nil_append, List.append_nil, Nat.reduceAdd, Nat.reduceSub, Nat.reduceEqDiff, Nat.reduceMul, Nat.reduceLT, Nat.reduceLeDiff, Nat.zero_add, Option.bind_some, Option.map_some, if_true, if_false, ite_true, ite_false, reduceIte, reduceCtorEq, Bool.not_true, Bool.not_false, Bool.true_and, Bool.false_and, Bool.and_true, Bool.and_false, Bool.or_true, Bool.or_false, Bool.true_or, Bool.false_or, beq_self_eq_true, bne_self_eq_false, ne_eq, not_true_eq_false, not_false_eq_true, Option.some.injEq, Prod.mk.injEq, and_self, and_true, true_and, decide_true, decide_false, Bool.false_eq_true, f1, f2, f3, ix_tup0, ix_tup1, ix_tup2, ix_tup3, if_pos (show 2 ≤ szLine by decide), ne_self (good_pair (cels b rows qs).2.1 (cels b rows qs).2.2), ne_self (good_tnats qs)]
    rw [show nI (stp rows qs) = .int (stp rows qs : Nat) from rfl]
    simp only [fnR, fnI, fin0, sSeq, sNil, sAsg, sAsgO, sPar, parE, slOf, sIf, sFor, sRet, sRetV, sRetN, sEx, sAug, augR, sAppend, sFrz, frzE, sSetFl, sDead, eC, eV, lookR, CC.e1, CC.e2, eBin, eNeg, eNot, eCmp, eChn, eAnd, eOr, eIf, aNil, aCons, pCons, rNil, rCons, eTup, eLst, eCell, eIx, oNo, oE, eSl, eRev, eAtt, eCall, eMk, eBt, eIsi, eIsc, eIndex, eComp, eLenset, tT, tNot, tAnd, tOr, tYes, gN, gNil, gCons, gT, iE, iK, iR1, iR2, iR3, iEnum, iEnumK, iZip, iZipK, itemsR, negR, revR, slR, kp_sh, kp_ow, okS, okO, Res.bind_ok, Res.bind_bad, truthR, binR, addR, subR, mulR, fdivR, modR, powR, cmpR, leR, ltR, isR, isNon, isiR, isTyp, tyIs, List.any, List.all, lenR, absR, minR, maxR, intR, boolR, listR, tupleR, List.set_cons_zero, List.set_cons_succ, List.getElem?_cons_zero, List.getElem?_cons_succ, List.length_cons, List.length_nil, List.map_cons, List.map_nil, List.replicate_zero, List.replicate_succ, List.cons_append, List.nil_append, List.append_nil, Nat.reduceAdd, Nat.reduceSub, Nat.reduceEqDiff, Nat.reduceMul, Nat.reduceLT, Nat.reduceLeDiff, Nat.zero_add, Option.bind_some, Option.map_some, if_true, if_false, ite_true, ite_false, reduceIte, reduceCtorEq, Bool.not_true, Bool.not_false, Bool.true_and, Bool.false_and, Bool.and_true, Bool.and_false, Bool.or_true, Bool.or_false, Bool.true_or, Bool.false_or, beq_self_eq_true, bne_self_eq_false, ne_eq, not_true_eq_false, not_false_eq_true, Option.some.injEq, Prod.mk.injEq, and_self, and_true, true_and, decide_true, decide_false, Bool.false_eq_true, ne_self (gd_int (stp rows qs : Nat)), f3, ne_self (good_tnats qs)]
end CC.K26
end

section
namespace CC.K26
open CC PySem
theorem sFor_def (g : GF) (it : IF) (body : SF) (ρ : Env) (S : Sto) : sFor g it body ρ S = (it ρ S).bind fun xs S => forL g body xs ρ S := rfl
noncomputable def upBody : SF := sSeq (sPar [(19, false), (20, false)] (rCons (eC (.int 1)) (rCons (eC (.int 1)) (rNil))))
    (sSeq (sFor (gN 14) (iR1 (eV true 18))
    (sSeq (sPar [(19, false), (20, false)] (rCons (eBin .mul (eBin .mul (eV true 19) (eV true 4)) (eV true 4)) (rCons (eBin .mul (eV true 20) (eV true 4)) (rNil))))
    (sNil)))
    (sSeq (sIf (tOr (tT (eCmp .ne (eCall F_number_of (aCons (eV false 6) (aCons (eBin .sub (eV true 7) (eV true 18)) (aCons (eBin .fdiv (eV true 10) (eV true 20)) (aCons (eBin .fdiv (eV true 11) (eV true 20)) (aNil)))))) (eBin .fdiv (eV true 12) (eV true 19)))) (tOr (tT (eCmp .ne (eBt tupleR (pCons (eCall F_cell_of (aCons (eV false 6) (aCons (eBin .sub (eV true 7) (eV true 18)) (aCons (eBin .fdiv (eV true 12) (eV true 19)) (aNil))))) (aNil))) (eTup (aCons (eBin .fdiv (eV true 10) (eV true 20)) (aCons (eBin .fdiv (eV true 11) (eV true 20)) (aNil)))))) (tOr (tT (eCmp .ne (eCall F_state_of (aCons (eV false 6) (aCons (eBin .sub (eV true 7) (eV true 18)) (aCons (eBin .fdiv (eV true 12) (eV true 19)) (aNil))))) (eIx (eV true 13) (eBin .sub (eV true 7) (eV true 18))))) (tT (eCmp .ne (eCall F_side (aCons (eV false 6) (aCons (eV false 7) (aNil)))) (eBin .mul (eV true 20) (eCall F_side (aCons (eV false 6) (aCons (eBin .sub (eV true 7) (eV true 18)) (aNil))))))))))
    (sSeq (sRet (eC (.bl false)))
    (sNil))
    (sNil))
    (sSeq (sIf (tT (eCmp .ne (eBt listR (pCons (eCall F_places_of (aCons (eV false 6) (aCons (eBin .sub (eV true 7) (eV true 18)) (aCons (eBin .fdiv (eV true 12) (eV true 19)) (aNil))))) (aNil))) (eSl (eV true 8) (oNo) (oE (eBin .sub (eV true 7) (eV true 18))))))
    (sSeq (sRet (eC (.bl false)))
    (sNil))
    (sNil))
    (sNil))))
theorem ups_ok (ns : List Int) {b : Nat} {rows : Rows} (c : Cv b rows) {ps : List Nat} (h : Pl b ps) (hl : 1 ≤ ps.length) (hl2 : ps.length ≤ 40) (x2 y14 y15 y16 y17 x18 x19 x20 x21 x22 x23 x24 : Sl) (S : Sto) :
    ∃ z14 z18 z19 z20, sFor (gN 18) (iK (eTup (aCons (eC (.int 1)) (aCons (eBin .fdiv (eV true 7) (eC (.int 2))) (aCons (eV false 7) (aNil)))))) upBody (E5 ns b rows ps x2 y14 y15 y16 y17 x18 x19 x20 x21 x22 x23 x24) S = .ok (.nx (E5 ns b rows ps x2 z14 y15 y16 y17 z18 z19 z20 x21 x22 x23 x24)) S := by
  have d2 : DivOk (2 : Int) := divOk_lit (n := 2) (by decide) (by decide)
  have e2 : ((ps.length : Nat) : Int) / 2 = ((ps.length / 2 : Nat) : Int) := (Int.natCast_ediv _ _).symm
  have hi : iK (eTup (aCons (eC (.int 1)) (aCons (eBin .fdiv (eV true 7) (eC (.int 2))) (aCons (eV false 7) (aNil))))) (E5 ns b rows ps x2 y14 y15 y16 y17 x18 x19 x20 x21 x22 x23 x24) S = .ok [.int ((1 : Nat) : Int), .int ((ps.length / 2 : Nat) : Int), .int (ps.length : Nat)] S := by
    unfold E5
    simp only [fnR, fnI, fin0, sSeq, sNil, sAsg, sAsgO, sPar, parE, slOf, sIf, sFor, sRet, sRetV, sRetN, sEx, sAug, augR, sAppend, sFrz, frzE, sSetFl, sDead, eC, eV, lookR, CC.e1, CC.e2, eBin, eNeg, eNot, eCmp, eChn, eAnd, eOr, eIf, aNil, aCons, pCons, rNil, rCons, eTup, eLst, eCell, eIx, oNo, oE, eSl, eRev, eAtt, eCall, eMk, eBt, eIsi, eIsc, eIndex, eComp, eLenset, tT, tNot, tAnd, tOr, tYes, gN, gNil, gCons, gT, iE, iK, iR1, iR2, iR3, iEnum, iEnumK, iZip, iZipK, itemsR, negR, revR, slR, kp_sh, kp_ow, okS, okO, Res.bind_ok, Res.bind_bad, truthR, binR, addR, subR, mulR, fdivR, modR, powR, cmpR, leR, ltR, isR, isNon, isiR, isTyp, tyIs, List.any, List.all, lenR, absR, minR, maxR, intR, boolR, listR, tupleR, List.set_cons_zero, List.set_cons_succ, List.getElem?_cons_zero, List.getElem?_cons_succ, List.length_cons, List.length_nil, List.map_cons, List.map_nil, List.replicate_zero, List.replicate_succ, List.cons_append, List.nil_append, List.append_nil, Nat.reduceAdd, Nat.reduceSub, Nat.reduceEqDiff, Nat.reduceMul, Nat.reduceLT, Nat.reduceLeDiff, Nat.zero_add, Option.bind_some, Option.map_some, if_true, if_false, ite_true, ite_false, reduceIte, reduceCtorEq, Bool.not_true, Bool.not_false, Bool.true_and, Bool.false_and, Bool.and_true, Bool.and_false, Bool.or_true, Bool.or_false, Bool.true_or, Bool.false_or, beq_self_eq_true, bne_self_eq_false, ne_eq, not_true_eq_false, not_false_eq_true, Option.some.injEq, Prod.mk.injEq, and_self, and_true, true_and, decide_true, decide_false, Bool.false_eq_true, d2, e2, if_pos (show 3 ≤ szLine by decide)]
    rfl
  obtain ⟨ρ', S', hf, z14, z18, z19, z20, rfl, rfl⟩ := forL_inv (g := gN 18) (body := upBody) (fun j ρ S' => ∃ z14 z18 z19 z20, ρ = E5 ns b rows ps x2 z14 y15 y16 y17 z18 z19 z20 x21 x22 x23 x24 ∧ S' = S) [.int ((1 : Nat) : Int), .int ((ps.length / 2 : Nat) : Int), .int (ps.length : Nat)] (E5 ns b rows ps x2 y14 y15 y16 y17 x18 x19 x20 x21 x22 x23 x24) S ⟨_, _, _, _, rfl, rfl⟩ (by
    rintro j d ρ S' hj ⟨z14, z18, z19, z20, rfl, rfl⟩
    have key : ∃ up : Nat, d = .int (up : Nat) ∧ up ≤ ps.length ∧ (up ≤ 20 ∨ up = ps.length) := by
      match j, hj with
      | 0, hj => cases hj; exact ⟨1, rfl, hl, .inl (by omega)⟩
      | 1, hj => cases hj; exact ⟨ps.length / 2, rfl, by omega, .inl (by omega)⟩
      | 2, hj => cases hj; exact ⟨ps.length, rfl, by omega, .inr rfl⟩
      | j + 3, hj => simp at hj
    obtain ⟨up, rfl, hu, hsm⟩ := key
    obtain ⟨w14, w19, w20, hw⟩ := up_turn ns c h (by omega) up hu hsm x2 z14 y15 y16 y17 z19 z20 x21 x22 x23 x24 S'
    exact ⟨_, _, S', rfl, .inl hw, w14, _, w19, w20, rfl, rfl⟩)
  exact ⟨z14, z18, z19, z20, for_sx hi hf⟩
noncomputable def lawBody : SF := (sSeq (sAsg (gN 3) (eCall F__law_curve (aCons (eV false 1) (aCons (eC (.int 4)) (aNil)))))
    (sSeq (sAsg (gT (gCons (gN 4) (gCons (gN 5) (gNil)))) (eV false 3))
    (sSeq (sPar [(6, false), (7, false)] (rCons (eCall F__law_built (aCons (eV false 3) (aNil))) (rCons (eBin .add (eC (.int 1)) (eCall F__law_take (aCons (eV false 1) (aCons (eC (.int 40)) (aNil))))) (rNil))))
    (sSeq (sPar [(8, false), (9, false), (10, false), (11, false), (12, false), (13, true)] (rCons (eLst (aNil)) (rCons (eC (.int 0)) (rCons (eC (.int 0)) (rCons (eC (.int 0)) (rCons (eC (.int 0)) (rCons (eLst (aCons (eC (.int 0)) (aNil))) (rNil))))))))
    (sSeq (sFor (gN 14) (iR1 (eV true 7))
    (sSeq (sAsg (gN 15) (eCall F__law_take (aCons (eV false 1) (aCons (eBin .mul (eV true 4) (eV true 4)) (aNil)))))
    (sSeq (sAsg (gT (gCons (gN 16) (gCons (gN 17) (gNil)))) (eIx (eIx (eV true 5) (eV true 9)) (eV true 15)))
    (sSeq (sPar [(8, false), (9, false), (10, false), (11, false), (12, false)] (rCons (eBin .add (eV true 8) (eLst (aCons (eV false 15) (aNil)))) (rCons (eV false 17) (rCons (eBin .add (eBin .mul (eV true 10) (eV true 4)) (eBin .mod (eV true 16) (eV true 4))) (rCons (eBin .add (eBin .mul (eV true 11) (eV true 4)) (eBin .fdiv (eV true 16) (eV true 4))) (rCons (eBin .add (eBin .mul (eBin .mul (eV true 12) (eV true 4)) (eV true 4)) (eV true 15)) (rNil)))))))
    (sSeq (sAppend 13 (eV false 9))
    (sNil))))))
    (sSeq (sIf (tOr (tT (eCmp .ne (eCall F_number_of (aCons (eV false 6) (aCons (eV false 7) (aCons (eV false 10) (aCons (eV false 11) (aNil)))))) (eV true 12))) (tOr (tT (eCmp .ne (eBt tupleR (pCons (eCall F_cell_of (aCons (eV false 6) (aCons (eV false 7) (aCons (eV false 12) (aNil))))) (aNil))) (eTup (aCons (eV false 10) (aCons (eV false 11) (aNil)))))) (tOr (tT (eCmp .ne (eCall F_state_of (aCons (eV false 6) (aCons (eV false 7) (aCons (eV false 12) (aNil))))) (eV true 9))) (tOr (tT (eCmp .ne (eBt listR (pCons (eCall F_places_of (aCons (eV false 6) (aCons (eV false 7) (aCons (eV false 12) (aNil))))) (aNil))) (eV true 8))) (tT (eCmp .ne (eBt listR (pCons (eCall F_digits_of (aCons (eV false 6) (aCons (eV false 7) (aCons (eV false 10) (aCons (eV false 11) (aNil)))))) (aNil))) (eV true 8)))))))
    (sSeq (sRet (eC (.bl false)))
    (sNil))
    (sNil))
    (sSeq (sFor (gN 18) (iK (eTup (aCons (eC (.int 1)) (aCons (eBin .fdiv (eV true 7) (eC (.int 2))) (aCons (eV false 7) (aNil))))))
    (sSeq (sPar [(19, false), (20, false)] (rCons (eC (.int 1)) (rCons (eC (.int 1)) (rNil))))
    (sSeq (sFor (gN 14) (iR1 (eV true 18))
    (sSeq (sPar [(19, false), (20, false)] (rCons (eBin .mul (eBin .mul (eV true 19) (eV true 4)) (eV true 4)) (rCons (eBin .mul (eV true 20) (eV true 4)) (rNil))))
    (sNil)))
    (sSeq (sIf (tOr (tT (eCmp .ne (eCall F_number_of (aCons (eV false 6) (aCons (eBin .sub (eV true 7) (eV true 18)) (aCons (eBin .fdiv (eV true 10) (eV true 20)) (aCons (eBin .fdiv (eV true 11) (eV true 20)) (aNil)))))) (eBin .fdiv (eV true 12) (eV true 19)))) (tOr (tT (eCmp .ne (eBt tupleR (pCons (eCall F_cell_of (aCons (eV false 6) (aCons (eBin .sub (eV true 7) (eV true 18)) (aCons (eBin .fdiv (eV true 12) (eV true 19)) (aNil))))) (aNil))) (eTup (aCons (eBin .fdiv (eV true 10) (eV true 20)) (aCons (eBin .fdiv (eV true 11) (eV true 20)) (aNil)))))) (tOr (tT (eCmp .ne (eCall F_state_of (aCons (eV false 6) (aCons (eBin .sub (eV true 7) (eV true 18)) (aCons (eBin .fdiv (eV true 12) (eV true 19)) (aNil))))) (eIx (eV true 13) (eBin .sub (eV true 7) (eV true 18))))) (tT (eCmp .ne (eCall F_side (aCons (eV false 6) (aCons (eV false 7) (aNil)))) (eBin .mul (eV true 20) (eCall F_side (aCons (eV false 6) (aCons (eBin .sub (eV true 7) (eV true 18)) (aNil))))))))))
    (sSeq (sRet (eC (.bl false)))
    (sNil))
    (sNil))
    (sSeq (sIf (tT (eCmp .ne (eBt listR (pCons (eCall F_places_of (aCons (eV false 6) (aCons (eBin .sub (eV true 7) (eV true 18)) (aCons (eBin .fdiv (eV true 12) (eV true 19)) (aNil))))) (aNil))) (eSl (eV true 8) (oNo) (oE (eBin .sub (eV true 7) (eV true 18))))))
    (sSeq (sRet (eC (.bl false)))
    (sNil))
    (sNil))
    (sNil))))))
    (sSeq (sAsg (gN 21) (eBin .sub (eV true 12) (eBin .mod (eV true 12) (eBin .mul (eV true 4) (eV true 4)))))
    (sSeq (sAsg (gN 22) (eBt sortedR (pCons (eComp (eBt tupleR (pCons (eCall F_cell_of (aCons (eV false 6) (aCons (eV false 7) (aCons (eBin .add (eV true 21) (eV true 15)) (aNil))))) (aNil))) (gN 15) (iR1 (eBin .mul (eV true 4) (eV true 4))) (tYes)) (aNil))))
    (sSeq (sIf (tOr (tT (eCmp .ne (eV true 22) (eBt sortedR (pCons (eComp (eTup (aCons (eBin .add (eBin .sub (eV true 10) (eBin .mod (eV true 10) (eV true 4))) (eBin .mod (eV true 16) (eV true 4))) (aCons (eBin .add (eBin .sub (eV true 11) (eBin .mod (eV true 11) (eV true 4))) (eBin .fdiv (eV true 16) (eV true 4))) (aNil)))) (gN 16) (iR1 (eBin .mul (eV true 4) (eV true 4))) (tYes)) (aNil))))) (tOr (tT (eCmp .ne (eCall F_number_of (aCons (eV false 6) (aCons (eC (.int 0)) (aCons (eC (.int 0)) (aCons (eC (.int 0)) (aNil)))))) (eC (.int 0)))) (tT (eCmp .ne (eBt tupleR (pCons (eCall F_cell_of (aCons (eV false 6) (aCons (eC (.int 0)) (aCons (eC (.int 0)) (aNil))))) (aNil))) (eTup (aCons (eC (.int 0)) (aCons (eC (.int 0)) (aNil))))))))
    (sSeq (sRet (eC (.bl false)))
    (sNil))
    (sNil))
    (sSeq (sAsg (gN 23) (eCall F__law_take (aCons (eV false 1) (aCons (eC (.int 3)) (aNil)))))
    (sSeq (sAsg (gN 24) (eCall F__law_numbered (aCons (eV false 3) (aCons (eV false 23) (aNil)))))
    (sSeq (sIf (tT (eBt anyR (pCons (eComp (eOr (eCmp .ne (eBt tupleR (pCons (eCall F_cell_of (aCons (eV false 6) (aCons (eV false 23) (aCons (eV false 25) (aNil))))) (aNil))) (eTup (aCons (eIx (eV true 26) (eC (.int 0))) (aCons (eIx (eV true 26) (eC (.int 1))) (aNil))))) (eOr (eCmp .ne (eCall F_state_of (aCons (eV false 6) (aCons (eV false 23) (aCons (eV false 25) (aNil))))) (eIx (eV true 26) (eC (.int 2)))) (eCmp .ne (eBt tupleR (pCons (eCall F_places_of (aCons (eV false 6) (aCons (eV false 23) (aCons (eV false 25) (aNil))))) (aNil))) (eIx (eV true 26) (eC (.int 3)))))) (gT (gCons (gN 25) (gCons (gN 26) (gNil)))) (iEnum (eV true 24)) (tYes)) (aNil))))
    (sSeq (sRet (eC (.bl false)))
    (sNil))
    (sNil))
    (sNil))))))))))))))
theorem B_law_eq : B_law = sSeq (sAsg (gN 1) (eCell (aCons (eV false 0) (aCons (eC (.int 0)) (aNil))))) (sSeq (sFor (gN 2) (iR1 (eC (.int 6))) lawBody) (sSeq (sRet (eC (.bl true))) sNil)) := rfl
theorem turn_ok (ns : List Int) (h63 : ns.length ≤ 63) (k : Nat) (x2 x3 x4 x5 x6 x7 x8 x9 x10 x11 x12 x13 x14 x15 x16 x17 x18 x19 x20 x21 x22 x23 x24 : Sl) :
    ∃ (k' : Nat) (y3 y4 y5 y6 y7 y8 y9 y10 y11 y12 y13 y14 y15 y16 y17 y18 y19 y20 y21 y22 y23 y24 : Sl), lawBody [.sh (.scr ns), .sh (.cel 0), x2, x3, x4, x5, x6, x7, x8, x9, x10, x11, x12, x13, x14, x15, x16, x17, x18, x19, x20, x21, x22, x23, x24, .no, .no] (SS ns k) =
      .ok (.nx [.sh (.scr ns), .sh (.cel 0), x2, y3, y4, y5, y6, y7, y8, y9, y10, y11, y12, y13, y14, y15, y16, y17, y18, y19, y20, y21, y22, y23, y24, .no, .no]) (SS ns k') := by
  obtain ⟨b, rows, k1, c, hcv⟩ := curve_ok ns h63 k
  obtain ⟨t0, ht0, htk⟩ := take_ok ns h63 k1 40 (by decide)
  have htk' : F__law_take [.cel 0, .int 40] (SS ns k1) = .ok (.sh, .int (t0 : Nat)) (SS ns (k1 + 1)) := htk
  obtain ⟨ps, k3, y14, y15, y16, y17, hpl, hP, hpf⟩ := places_drawn ns h63 c (1 + t0) (by omega) (k1 + 1) x2 x14 x15 x16 x17 x18 x19 x20 x21 x22 x23 x24
  obtain ⟨t3, ht3, htk3⟩ := take_ok ns h63 k3 3 (by decide)
  have htk3' : F__law_take [.cel 0, .int 3] (SS ns k3) = .ok (.sh, .int (t3 : Nat)) (SS ns (k3 + 1)) := htk3
  obtain ⟨z14, z18, z19, z20, hups⟩ := ups_ok ns c hP (by omega) (by omega) x2 y14 y15 y16 y17 x18 x19 x20 x21 x22 x23 x24 (SS ns k3)
  obtain ⟨qs, p0, hqs⟩ := init_last (ps := ps) (by omega)
  obtain ⟨dn, hdn, hn1, hn2⟩ := near_ok ns c (qs := qs) (p0 := p0) (by rw [← hqs]; exact hP) (by rw [← hqs]; omega) x2 z14 y15 y16 y17 z18 z19 z20 (.sh (.int 0)) x22 x23 x24 (SS ns k3)
  rw [← hqs] at hn1 hn2
  have hb := c.b10
  have hs : Small (b : Int) := small_nat (by omega)
  have em : ((b : Nat) : Int) * ((b : Nat) : Int) = ((b * b : Nat) : Int) := by simp
  have hBB : (0 : Int) < ((b * b : Nat) : Int) := by omega
  have hr : Rng62 ((1 + t0 : Nat) : Int) := rng62 (by omega)
  have hlast : ((num (b * b) ps : Nat) : Int) - ((num (b * b) ps : Nat) : Int) % ((b * b : Nat) : Int) = ((num (b * b) qs * (b * b) : Nat) : Int) := by
    have hp0 : p0 < b * b := hP p0 (by rw [hqs]; exact List.mem_append_right _ (List.mem_singleton.mpr rfl))
    rw [hqs, num_snoc, ← Int.natCast_emod, Nat.mul_comm (num (b * b) qs), Nat.mul_add_mod, Nat.mod_eq_of_lt hp0]
    omega
  have F0 := fun5 c (ps := []) (fun _ h => absurd h (by simp)) (by simp)
  have hlev : (1 : Int) + (t0 : Int) = ((1 + t0 : Nat) : Int) := by simp
  have hE : [.sh (.scr ns), .sh (.cel 0), x2, .sh (toldD b rows), .sh (.int b), .sh (rowsD rows), .sh (cvD b rows), .sh (.int ((1 + t0 : Nat) : Int)), .sh (.lst (ps.map nI)), .sh (.int (stp rows ps : Nat)), .sh (.int ((cels b rows ps).2.1 : Nat)), .sh (.int ((cels b rows ps).2.2 : Nat)), .sh (.int (num (b * b) ps : Nat)), .ow (.lst ((sts rows ps).map nI)), y14, y15, y16, y17, x18, x19, x20, x21, x22, x23, x24, .no, .no] = E5 ns b rows ps x2 y14 y15 y16 y17 x18 x19 x20 x21 x22 x23 x24 := by unfold E5; rw [hpl]
  rw [hE] at hpf
  have hfin : E5 ns b rows ps x2 z14 y15 y16 y17 z18 z19 z20 (.sh (.int ((num (b * b) qs * (b * b) : Nat) : Int))) (.sh dn) (.sh (.int (t3 : Nat))) (.sh (.lst ((pss (b * b) t3).map (ent b rows)))) = [.sh (.scr ns), .sh (.cel 0), x2, .sh (toldD b rows), .sh (.int b), .sh (rowsD rows), .sh (cvD b rows), .sh (.int (ps.length : Nat)), .sh (.lst (ps.map nI)), .sh (.int (stp rows ps : Nat)), .sh (.int ((cels b rows ps).2.1 : Nat)), .sh (.int ((cels b rows ps).2.2 : Nat)), .sh (.int (num (b * b) ps : Nat)), .ow (.lst ((sts rows ps).map nI)), z14, y15, y16, y17, z18, z19, z20, .sh (.int ((num (b * b) qs * (b * b) : Nat) : Int)), .sh dn, .sh (.int (t3 : Nat)), .sh (.lst ((pss (b * b) t3).map (ent b rows))), .no, .no] := rfl
  refine ⟨k3 + 1, .sh (toldD b rows), .sh (.int b), .sh (rowsD rows), .sh (cvD b rows), .sh (.int (ps.length : Nat)), .sh (.lst (ps.map nI)), .sh (.int (stp rows ps : Nat)), .sh (.int ((cels b rows ps).2.1 : Nat)), .sh (.int ((cels b rows ps).2.2 : Nat)), .sh (.int (num (b * b) ps : Nat)), .ow (.lst ((sts rows ps).map nI)), z14, y15, y16, y17, z18, z19, z20, .sh (.int ((num (b * b) qs * (b * b) : Nat) : Int)), .sh dn, .sh (.int (t3 : Nat)), .sh (.lst ((pss (b * b) t3).map (ent b rows))), ?_⟩
  rw [← hfin]
  unfold lawBody
  refine sx (ρ' := [.sh (.scr ns), .sh (.cel 0), x2, .sh (toldD b rows), x4, x5, x6, x7, x8, x9, x10, x11, x12, x13, x14, x15, x16, x17, x18, x19, x20, x21, x22, x23, x24, .no, .no]) (S' := SS ns k1) ?_ (sx (ρ' := [.sh (.scr ns), .sh (.cel 0), x2, .sh (toldD b rows), .sh (.int b), .sh (rowsD rows), x6, x7, x8, x9, x10, x11, x12, x13, x14, x15, x16, x17, x18, x19, x20, x21, x22, x23, x24, .no, .no]) (S' := SS ns k1) ?_
    (sx (ρ' := [.sh (.scr ns), .sh (.cel 0), x2, .sh (toldD b rows), .sh (.int b), .sh (rowsD rows), .sh (cvD b rows), .sh (.int ((1 + t0 : Nat) : Int)), x8, x9, x10, x11, x12, x13, x14, x15, x16, x17, x18, x19, x20, x21, x22, x23, x24, .no, .no]) (S' := SS ns (k1 + 1)) ?_
    (sx (ρ' := [.sh (.scr ns), .sh (.cel 0), x2, .sh (toldD b rows), .sh (.int b), .sh (rowsD rows), .sh (cvD b rows), .sh (.int ((1 + t0 : Nat) : Int)), .sh (.lst []), .sh (.int 0), .sh (.int 0), .sh (.int 0), .sh (.int 0), .ow (.lst [.int 0]), x14, x15, x16, x17, x18, x19, x20, x21, x22, x23, x24, .no, .no]) (S' := SS ns (k1 + 1)) ?_
    (sx (ρ' := E5 ns b rows ps x2 y14 y15 y16 y17 x18 x19 x20 x21 x22 x23 x24) (S' := SS ns k3) (for_sx (xs := rangeD 0 (1 + t0)) (S1 := SS ns (k1 + 1)) ?_ hpf)
    (sx (if_nx (S' := SS ns k3) (check1 ns c hP (by omega) x2 y14 y15 y16 y17 x18 x19 x20 x21 x22 x23 x24 (SS ns k3)))
    (sx hups
    (sx (ρ' := E5 ns b rows ps x2 z14 y15 y16 y17 z18 z19 z20 (.sh (.int ((num (b * b) qs * (b * b) : Nat) : Int))) x22 x23 x24) (S' := SS ns k3) ?_
    (sx (ρ' := E5 ns b rows ps x2 z14 y15 y16 y17 z18 z19 z20 (.sh (.int ((num (b * b) qs * (b * b) : Nat) : Int))) (.sh dn) x23 x24) (S' := SS ns k3) (asg_ow hn1 rfl)
    (sx (if_nx (S' := SS ns k3) (or_ff (ne_ff (S1 := SS ns k3) (S2 := SS ns k3) (t1 := .sh) (t2 := .ow) (d := dn) ?_ (hn2 _) hdn) (or_ff (ne_ff (S1 := SS ns k3) (S2 := SS ns k3) (t1 := .sh) (t2 := .sh) (d := .int 0) ?_ ?_ rfl) (ne_ff (S1 := SS ns k3) (S2 := SS ns k3) (t1 := .sh) (t2 := .sh) (d := .tup [nI 0, nI 0]) ?_ ?_ (good_pair 0 0)))))
    (sx (ρ' := E5 ns b rows ps x2 z14 y15 y16 y17 z18 z19 z20 (.sh (.int ((num (b * b) qs * (b * b) : Nat) : Int))) (.sh dn) (.sh (.int (t3 : Nat))) x24) (S' := SS ns (k3 + 1)) ?_
    (sx (ρ' := E5 ns b rows ps x2 z14 y15 y16 y17 z18 z19 z20 (.sh (.int ((num (b * b) qs * (b * b) : Nat) : Int))) (.sh dn) (.sh (.int (t3 : Nat))) (.sh (.lst ((pss (b * b) t3).map (ent b rows))))) (S' := SS ns (k3 + 1)) ?_
    (sx (if_nx (S' := SS ns (k3 + 1)) (every_ok ns c t3 (by omega) x2 z14 y15 y16 y17 z18 z19 z20 _ _ (SS ns (k3 + 1)))) rfl))))))))))))
  · simp only [fnR, fnI, fin0, sSeq, sNil, sAsg, sAsgO, sPar, parE, slOf, sIf, sFor, sRet, sRetV, sRetN, sEx, sAug, augR, sAppend, sFrz, frzE, sSetFl, sDead, eC, eV, lookR, CC.e1, CC.e2, eBin, eNeg, eNot, eCmp, eChn, eAnd, eOr, eIf, aNil, aCons, pCons, rNil, rCons, eTup, eLst, eCell, eIx, oNo, oE, eSl, eRev, eAtt, eCall, eMk, eBt, eIsi, eIsc, eIndex, eComp, eLenset, tT, tNot, tAnd, tOr, tYes, gN, gNil, gCons, gT, iE, iK, iR1, iR2, iR3, iEnum, iEnumK, iZip, iZipK, itemsR, negR, revR, slR, kp_sh, kp_ow, okS, okO, Res.bind_ok, Res.bind_bad, truthR, binR, addR, subR, mulR, fdivR, modR, powR, cmpR, leR, ltR, isR, isNon, isiR, isTyp, tyIs, List.any, List.all, lenR, absR, minR, maxR, intR, boolR, listR, tupleR, List.set_cons_zero, List.set_cons_succ, List.getElem?_cons_zero, List.getElem?_cons_succ, List.length_cons, List.length_nil, List.map_cons, List.map_nil, List.replicate_zero, List.replicate_succ, List.cons_append, List.nil_append, List.append_nil, Nat.reduceAdd, Nat.reduceSub, Nat.reduceEqDiff, Nat.reduceMul, Nat.reduceLT, Nat.reduceLeDiff, Nat.zero_add, Option.bind_some, Option.map_some, if_true, if_false, ite_true, ite_false, reduceIte, reduceCtorEq, Bool.not_true, Bool.not_false, Bool.true_and, Bool.false_and, Bool.and_true, Bool.and_false, Bool.or_true, Bool.or_false, Bool.true_or, Bool.false_or, beq_self_eq_true, bne_self_eq_false, ne_eq, not_true_eq_false, not_false_eq_true, Option.some.injEq, Prod.mk.injEq, and_self, and_true, true_and, decide_true, decide_false, Bool.false_eq_true, hcv]
  · simp only [fnR, fnI, fin0, sSeq, sNil, sAsg, sAsgO, sPar, parE, slOf, sIf, sFor, sRet, sRetV, sRetN, sEx, sAug, augR, sAppend, sFrz, frzE, sSetFl, sDead, eC, eV, lookR, CC.e1, CC.e2, eBin, eNeg, eNot, eCmp, eChn, eAnd, eOr, eIf, aNil, aCons, pCons, rNil, rCons, eTup, eLst, eCell, eIx, oNo, oE, eSl, eRev, eAtt, eCall, eMk, eBt, eIsi, eIsc, eIndex, eComp, eLenset, tT, tNot, tAnd, tOr, tYes, gN, gNil, gCons, gT, iE, iK, iR1, iR2, iR3, iEnum, iEnumK, iZip, iZipK, itemsR, negR, revR, slR, kp_sh, kp_ow, okS, okO, Res.bind_ok, Res.bind_bad, truthR, binR, addR, subR, mulR, fdivR, modR, powR, cmpR, leR, ltR, isR, isNon, isiR, isTyp, tyIs, List.any, List.all, lenR, absR, minR, maxR, intR, boolR, listR, tupleR, List.set_cons_zero, List.set_cons_succ, List.getElem?_cons_zero, List.getElem?_cons_succ, List.length_cons, List.length_nil, List.map_cons, List.map_nil, List.replicate_zero, List.replicate_succ, List.cons_append, List.nil_append, List.append_nil, Nat.reduceAdd, Nat.reduceSub, Nat.reduceEqDiff, Nat.reduceMul, Nat.reduceLT, Nat.reduceLeDiff, Nat.zero_add, Option.bind_some, Option.map_some, if_true, if_false, ite_true, ite_false, reduceIte, reduceCtorEq, Bool.not_true, Bool.not_false, Bool.true_and, Bool.false_and, Bool.and_true, Bool.and_false, Bool.or_true, Bool.or_false, Bool.true_or, Bool.false_or, beq_self_eq_true, bne_self_eq_false, ne_eq, not_true_eq_false, not_false_eq_true, Option.some.injEq, Prod.mk.injEq, and_self, and_true, true_and, decide_true, decide_false, Bool.false_eq_true, toldD]
    rfl
  · simp only [fnR, fnI, fin0, sSeq, sNil, sAsg, sAsgO, sPar, parE, slOf, sIf, sFor, sRet, sRetV, sRetN, sEx, sAug, augR, sAppend, sFrz, frzE, sSetFl, sDead, eC, eV, lookR, CC.e1, CC.e2, eBin, eNeg, eNot, eCmp, eChn, eAnd, eOr, eIf, aNil, aCons, pCons, rNil, rCons, eTup, eLst, eCell, eIx, oNo, oE, eSl, eRev, eAtt, eCall, eMk, eBt, eIsi, eIsc, eIndex, eComp, eLenset, tT, tNot, tAnd, tOr, tYes, gN, gNil, gCons, gT, iE, iK, iR1, iR2, iR3, iEnum, iEnumK, iZip, iZipK, itemsR, negR, revR, slR, kp_sh, kp_ow, okS, okO, Res.bind_ok, Res.bind_bad, truthR, binR, addR, subR, mulR, fdivR, modR, powR, cmpR, leR, ltR, isR, isNon, isiR, isTyp, tyIs, List.any, List.all, lenR, absR, minR, maxR, intR, boolR, listR, tupleR, List.set_cons_zero, List.set_cons_succ, List.getElem?_cons_zero, List.getElem?_cons_succ, List.length_cons, List.length_nil, List.map_cons, List.map_nil, List.replicate_zero, List.replicate_succ, List.cons_append, List.nil_append, List.append_nil, Nat.reduceAdd, Nat.reduceSub, Nat.reduceEqDiff, Nat.reduceMul, Nat.reduceLT, Nat.reduceLeDiff, Nat.zero_add, Option.bind_some, Option.map_some, if_true, if_false, ite_true, ite_false, reduceIte, reduceCtorEq, Bool.not_true, Bool.not_false, Bool.true_and, Bool.false_and, Bool.and_true, Bool.and_false, Bool.or_true, Bool.or_false, Bool.true_or, Bool.false_or, beq_self_eq_true, bne_self_eq_false, ne_eq, not_true_eq_false, not_false_eq_true, Option.some.injEq, Prod.mk.injEq, and_self, and_true, true_and, decide_true, decide_false, Bool.false_eq_true, built_ok c, htk', hlev]
  · simp only [fnR, fnI, fin0, sSeq, sNil, sAsg, sAsgO, sPar, parE, slOf, sIf, sFor, sRet, sRetV, sRetN, sEx, sAug, augR, sAppend, sFrz, frzE, sSetFl, sDead, eC, eV, lookR, CC.e1, CC.e2, eBin, eNeg, eNot, eCmp, eChn, eAnd, eOr, eIf, aNil, aCons, pCons, rNil, rCons, eTup, eLst, eCell, eIx, oNo, oE, eSl, eRev, eAtt, eCall, eMk, eBt, eIsi, eIsc, eIndex, eComp, eLenset, tT, tNot, tAnd, tOr, tYes, gN, gNil, gCons, gT, iE, iK, iR1, iR2, iR3, iEnum, iEnumK, iZip, iZipK, itemsR, negR, revR, slR, kp_sh, kp_ow, okS, okO, Res.bind_ok, Res.bind_bad, truthR, binR, addR, subR, mulR, fdivR, modR, powR, cmpR, leR, ltR, isR, isNon, isiR, isTyp, tyIs, List.any, List.all, lenR, absR, minR, maxR, intR, boolR, listR, tupleR, List.set_cons_zero, List.set_cons_succ, List.getElem?_cons_zero, List.getElem?_cons_succ, List.length_cons, List.length_nil, List.map_cons, List.map_nil, List.replicate_zero, List.replicate_succ, List.cons_append, List.nil_append, List.append_nil, Nat.reduceAdd, Nat.reduceSub, Nat.reduceEqDiff, Nat.reduceMul, Nat.reduceLT, Nat.reduceLeDiff, Nat.zero_add, Option.bind_some, Option.map_some, if_true, if_false, ite_true, ite_false, reduceIte, reduceCtorEq, Bool.not_true, Bool.not_false, Bool.true_and, Bool.false_and, Bool.and_true, Bool.and_false, Bool.or_true, Bool.or_false, Bool.true_or, Bool.false_or, beq_self_eq_true, bne_self_eq_false, ne_eq, not_true_eq_false, not_false_eq_true, Option.some.injEq, Prod.mk.injEq, and_self, and_true, true_and, decide_true, decide_false, Bool.false_eq_true, if_pos (show 0 ≤ szLine by decide), if_pos (show 1 ≤ szLine by decide)]
  · simp only [fnR, fnI, fin0, sSeq, sNil, sAsg, sAsgO, sPar, parE, slOf, sIf, sFor, sRet, sRetV, sRetN, sEx, sAug, augR, sAppend, sFrz, frzE, sSetFl, sDead, eC, eV, lookR, CC.e1, CC.e2, eBin, eNeg, eNot, eCmp, eChn, eAnd, eOr, eIf, aNil, aCons, pCons, rNil, rCons, eTup, eLst, eCell, eIx, oNo, oE, eSl, eRev, eAtt, eCall, eMk, eBt, eIsi, eIsc, eIndex, eComp, eLenset, tT, tNot, tAnd, tOr, tYes, gN, gNil, gCons, gT, iE, iK, iR1, iR2, iR3, iEnum, iEnumK, iZip, iZipK, itemsR, negR, revR, slR, kp_sh, kp_ow, okS, okO, Res.bind_ok, Res.bind_bad, truthR, binR, addR, subR, mulR, fdivR, modR, powR, cmpR, leR, ltR, isR, isNon, isiR, isTyp, tyIs, List.any, List.all, lenR, absR, minR, maxR, intR, boolR, listR, tupleR, List.set_cons_zero, List.set_cons_succ, List.getElem?_cons_zero, List.getElem?_cons_succ, List.length_cons, List.length_nil, List.map_cons, List.map_nil, List.replicate_zero, List.replicate_succ, List.cons_append, List.nil_append, List.append_nil, Nat.reduceAdd, Nat.reduceSub, Nat.reduceEqDiff, Nat.reduceMul, Nat.reduceLT, Nat.reduceLeDiff, Nat.zero_add, Option.bind_some, Option.map_some, if_true, if_false, ite_true, ite_false, reduceIte, reduceCtorEq, Bool.not_true, Bool.not_false, Bool.true_and, Bool.false_and, Bool.and_true, Bool.and_false, Bool.or_true, Bool.or_false, Bool.true_or, Bool.false_or, beq_self_eq_true, bne_self_eq_false, ne_eq, not_true_eq_false, not_false_eq_true, Option.some.injEq, Prod.mk.injEq, and_self, and_true, true_and, decide_true, decide_false, Bool.false_eq_true, hr, Int.toNat_natCast]
  · unfold E5; simp only [fnR, fnI, fin0, sSeq, sNil, sAsg, sAsgO, sPar, parE, slOf, sIf, sFor, sRet, sRetV, sRetN, sEx, sAug, augR, sAppend, sFrz, frzE, sSetFl, sDead, eC, eV, lookR, CC.e1, CC.e2, eBin, eNeg, eNot, eCmp, eChn, eAnd, eOr, eIf, aNil, aCons, pCons, rNil, rCons, eTup, eLst, eCell, eIx, oNo, oE, eSl, eRev, eAtt, eCall, eMk, eBt, eIsi, eIsc, eIndex, eComp, eLenset, tT, tNot, tAnd, tOr, tYes, gN, gNil, gCons, gT, iE, iK, iR1, iR2, iR3, iEnum, iEnumK, iZip, iZipK, itemsR, negR, revR, slR, kp_sh, kp_ow, okS, okO, Res.bind_ok, Res.bind_bad, truthR, binR, addR, subR, mulR, fdivR, modR, powR, cmpR, leR, ltR, isR, isNon, isiR, isTyp, tyIs, List.any, List.all, lenR, absR, minR, maxR, intR, boolR, listR, tupleR, List.set_cons_zero, List.set_cons_succ, List.getElem?_cons_zero, List.getElem?_cons_succ, List.length_cons, List.length_nil, List.map_cons, List.map_nil, List.replicate_zero, List.replicate_succ, List.cons_append, List.nil_append, List.append_nil, Nat.reduceAdd, Nat.reduceSub, Nat.reduceEqDiff, Nat.reduceMul, Nat.reduceLT, Nat.reduceLeDiff, Nat.zero_add, Option.bind_some, Option.map_some, if_true, if_false, ite_true, ite_false, reduceIte, reduceCtorEq, Bool.not_true, Bool.not_false, Bool.true_and, Bool.false_and, Bool.and_true, Bool.and_false, Bool.or_true, Bool.or_false, Bool.true_or, Bool.false_or, beq_self_eq_true, bne_self_eq_false, ne_eq, not_true_eq_false, not_false_eq_true, Option.some.injEq, Prod.mk.injEq, and_self, and_true, true_and, decide_true, decide_false, Bool.false_eq_true, hs, or_true, em, hBB, hlast]
  · unfold E5; simp only [fnR, fnI, fin0, sSeq, sNil, sAsg, sAsgO, sPar, parE, slOf, sIf, sFor, sRet, sRetV, sRetN, sEx, sAug, augR, sAppend, sFrz, frzE, sSetFl, sDead, eC, eV, lookR, CC.e1, CC.e2, eBin, eNeg, eNot, eCmp, eChn, eAnd, eOr, eIf, aNil, aCons, pCons, rNil, rCons, eTup, eLst, eCell, eIx, oNo, oE, eSl, eRev, eAtt, eCall, eMk, eBt, eIsi, eIsc, eIndex, eComp, eLenset, tT, tNot, tAnd, tOr, tYes, gN, gNil, gCons, gT, iE, iK, iR1, iR2, iR3, iEnum, iEnumK, iZip, iZipK, itemsR, negR, revR, slR, kp_sh, kp_ow, okS, okO, Res.bind_ok, Res.bind_bad, truthR, binR, addR, subR, mulR, fdivR, modR, powR, cmpR, leR, ltR, isR, isNon, isiR, isTyp, tyIs, List.any, List.all, lenR, absR, minR, maxR, intR, boolR, listR, tupleR, List.set_cons_zero, List.set_cons_succ, List.getElem?_cons_zero, List.getElem?_cons_succ, List.length_cons, List.length_nil, List.map_cons, List.map_nil, List.replicate_zero, List.replicate_succ, List.cons_append, List.nil_append, List.append_nil, Nat.reduceAdd, Nat.reduceSub, Nat.reduceEqDiff, Nat.reduceMul, Nat.reduceLT, Nat.reduceLeDiff, Nat.zero_add, Option.bind_some, Option.map_some, if_true, if_false, ite_true, ite_false, reduceIte, reduceCtorEq, Bool.not_true, Bool.not_false, Bool.true_and, Bool.false_and, Bool.and_true, Bool.and_false, Bool.or_true, Bool.or_false, Bool.true_or, Bool.false_or, beq_self_eq_true, bne_self_eq_false, ne_eq, not_true_eq_false, not_false_eq_true, Option.some.injEq, Prod.mk.injEq, and_self, and_true, true_and, decide_true, decide_false, Bool.false_eq_true]
  · have := F0.num (SS ns k3)
    have h0 : F_number_of [cvD b rows, .int 0, .int 0, .int 0] (SS ns k3) = .ok (.sh, .int 0) (SS ns k3) := this
    unfold E5; simp only [fnR, fnI, fin0, sSeq, sNil, sAsg, sAsgO, sPar, parE, slOf, sIf, sFor, sRet, sRetV, sRetN, sEx, sAug, augR, sAppend, sFrz, frzE, sSetFl, sDead, eC, eV, lookR, CC.e1, CC.e2, eBin, eNeg, eNot, eCmp, eChn, eAnd, eOr, eIf, aNil, aCons, pCons, rNil, rCons, eTup, eLst, eCell, eIx, oNo, oE, eSl, eRev, eAtt, eCall, eMk, eBt, eIsi, eIsc, eIndex, eComp, eLenset, tT, tNot, tAnd, tOr, tYes, gN, gNil, gCons, gT, iE, iK, iR1, iR2, iR3, iEnum, iEnumK, iZip, iZipK, itemsR, negR, revR, slR, kp_sh, kp_ow, okS, okO, Res.bind_ok, Res.bind_bad, truthR, binR, addR, subR, mulR, fdivR, modR, powR, cmpR, leR, ltR, isR, isNon, isiR, isTyp, tyIs, List.any, List.all, lenR, absR, minR, maxR, intR, boolR, listR, tupleR, List.set_cons_zero, List.set_cons_succ, List.getElem?_cons_zero, List.getElem?_cons_succ, List.length_cons, List.length_nil, List.map_cons, List.map_nil, List.replicate_zero, List.replicate_succ, List.cons_append, List.nil_append, List.append_nil, Nat.reduceAdd, Nat.reduceSub, Nat.reduceEqDiff, Nat.reduceMul, Nat.reduceLT, Nat.reduceLeDiff, Nat.zero_add, Option.bind_some, Option.map_some, if_true, if_false, ite_true, ite_false, reduceIte, reduceCtorEq, Bool.not_true, Bool.not_false, Bool.true_and, Bool.false_and, Bool.and_true, Bool.and_false, Bool.or_true, Bool.or_false, Bool.true_or, Bool.false_or, beq_self_eq_true, bne_self_eq_false, ne_eq, not_true_eq_false, not_false_eq_true, Option.some.injEq, Prod.mk.injEq, and_self, and_true, true_and, decide_true, decide_false, Bool.false_eq_true, h0]
  · unfold E5; simp only [fnR, fnI, fin0, sSeq, sNil, sAsg, sAsgO, sPar, parE, slOf, sIf, sFor, sRet, sRetV, sRetN, sEx, sAug, augR, sAppend, sFrz, frzE, sSetFl, sDead, eC, eV, lookR, CC.e1, CC.e2, eBin, eNeg, eNot, eCmp, eChn, eAnd, eOr, eIf, aNil, aCons, pCons, rNil, rCons, eTup, eLst, eCell, eIx, oNo, oE, eSl, eRev, eAtt, eCall, eMk, eBt, eIsi, eIsc, eIndex, eComp, eLenset, tT, tNot, tAnd, tOr, tYes, gN, gNil, gCons, gT, iE, iK, iR1, iR2, iR3, iEnum, iEnumK, iZip, iZipK, itemsR, negR, revR, slR, kp_sh, kp_ow, okS, okO, Res.bind_ok, Res.bind_bad, truthR, binR, addR, subR, mulR, fdivR, modR, powR, cmpR, leR, ltR, isR, isNon, isiR, isTyp, tyIs, List.any, List.all, lenR, absR, minR, maxR, intR, boolR, listR, tupleR, List.set_cons_zero, List.set_cons_succ, List.getElem?_cons_zero, List.getElem?_cons_succ, List.length_cons, List.length_nil, List.map_cons, List.map_nil, List.replicate_zero, List.replicate_succ, List.cons_append, List.nil_append, List.append_nil, Nat.reduceAdd, Nat.reduceSub, Nat.reduceEqDiff, Nat.reduceMul, Nat.reduceLT, Nat.reduceLeDiff, Nat.zero_add, Option.bind_some, Option.map_some, if_true, if_false, ite_true, ite_false, reduceIte, reduceCtorEq, Bool.not_true, Bool.not_false, Bool.true_and, Bool.false_and, Bool.and_true, Bool.and_false, Bool.or_true, Bool.or_false, Bool.true_or, Bool.false_or, beq_self_eq_true, bne_self_eq_false, ne_eq, not_true_eq_false, not_false_eq_true, Option.some.injEq, Prod.mk.injEq, and_self, and_true, true_and, decide_true, decide_false, Bool.false_eq_true]
  · have := F0.cell (SS ns k3)
    have h0 : F_cell_of [cvD b rows, .int 0, .int 0] (SS ns k3) = .ok (.sh, .tup [nI 0, nI 0]) (SS ns k3) := this
    unfold E5; simp only [fnR, fnI, fin0, sSeq, sNil, sAsg, sAsgO, sPar, parE, slOf, sIf, sFor, sRet, sRetV, sRetN, sEx, sAug, augR, sAppend, sFrz, frzE, sSetFl, sDead, eC, eV, lookR, CC.e1, CC.e2, eBin, eNeg, eNot, eCmp, eChn, eAnd, eOr, eIf, aNil, aCons, pCons, rNil, rCons, eTup, eLst, eCell, eIx, oNo, oE, eSl, eRev, eAtt, eCall, eMk, eBt, eIsi, eIsc, eIndex, eComp, eLenset, tT, tNot, tAnd, tOr, tYes, gN, gNil, gCons, gT, iE, iK, iR1, iR2, iR3, iEnum, iEnumK, iZip, iZipK, itemsR, negR, revR, slR, kp_sh, kp_ow, okS, okO, Res.bind_ok, Res.bind_bad, truthR, binR, addR, subR, mulR, fdivR, modR, powR, cmpR, leR, ltR, isR, isNon, isiR, isTyp, tyIs, List.any, List.all, lenR, absR, minR, maxR, intR, boolR, listR, tupleR, List.set_cons_zero, List.set_cons_succ, List.getElem?_cons_zero, List.getElem?_cons_succ, List.length_cons, List.length_nil, List.map_cons, List.map_nil, List.replicate_zero, List.replicate_succ, List.cons_append, List.nil_append, List.append_nil, Nat.reduceAdd, Nat.reduceSub, Nat.reduceEqDiff, Nat.reduceMul, Nat.reduceLT, Nat.reduceLeDiff, Nat.zero_add, Option.bind_some, Option.map_some, if_true, if_false, ite_true, ite_false, reduceIte, reduceCtorEq, Bool.not_true, Bool.not_false, Bool.true_and, Bool.false_and, Bool.and_true, Bool.and_false, Bool.or_true, Bool.or_false, Bool.true_or, Bool.false_or, beq_self_eq_true, bne_self_eq_false, ne_eq, not_true_eq_false, not_false_eq_true, Option.some.injEq, Prod.mk.injEq, and_self, and_true, true_and, decide_true, decide_false, Bool.false_eq_true, h0]
  · unfold E5; simp only [fnR, fnI, fin0, sSeq, sNil, sAsg, sAsgO, sPar, parE, slOf, sIf, sFor, sRet, sRetV, sRetN, sEx, sAug, augR, sAppend, sFrz, frzE, sSetFl, sDead, eC, eV, lookR, CC.e1, CC.e2, eBin, eNeg, eNot, eCmp, eChn, eAnd, eOr, eIf, aNil, aCons, pCons, rNil, rCons, eTup, eLst, eCell, eIx, oNo, oE, eSl, eRev, eAtt, eCall, eMk, eBt, eIsi, eIsc, eIndex, eComp, eLenset, tT, tNot, tAnd, tOr, tYes, gN, gNil, gCons, gT, iE, iK, iR1, iR2, iR3, iEnum, iEnumK, iZip, iZipK, itemsR, negR, revR, slR, kp_sh, kp_ow, okS, okO, Res.bind_ok, Res.bind_bad, truthR, binR, addR, subR, mulR, fdivR, modR, powR, cmpR, leR, ltR, isR, isNon, isiR, isTyp, tyIs, List.any, List.all, lenR, absR, minR, maxR, intR, boolR, listR, tupleR, List.set_cons_zero, List.set_cons_succ, List.getElem?_cons_zero, List.getElem?_cons_succ, List.length_cons, List.length_nil, List.map_cons, List.map_nil, List.replicate_zero, List.replicate_succ, List.cons_append, List.nil_append, List.append_nil, Nat.reduceAdd, Nat.reduceSub, Nat.reduceEqDiff, Nat.reduceMul, Nat.reduceLT, Nat.reduceLeDiff, Nat.zero_add, Option.bind_some, Option.map_some, if_true, if_false, ite_true, ite_false, reduceIte, reduceCtorEq, Bool.not_true, Bool.not_false, Bool.true_and, Bool.false_and, Bool.and_true, Bool.and_false, Bool.or_true, Bool.or_false, Bool.true_or, Bool.false_or, beq_self_eq_true, bne_self_eq_false, ne_eq, not_true_eq_false, not_false_eq_true, Option.some.injEq, Prod.mk.injEq, and_self, and_true, true_and, decide_true, decide_false, Bool.false_eq_true, if_pos (show 2 ≤ szLine by decide)]
    rfl
  · unfold E5; simp only [fnR, fnI, fin0, sSeq, sNil, sAsg, sAsgO, sPar, parE, slOf, sIf, sFor, sRet, sRetV, sRetN, sEx, sAug, augR, sAppend, sFrz, frzE, sSetFl, sDead, eC, eV, lookR, CC.e1, CC.e2, eBin, eNeg, eNot, eCmp, eChn, eAnd, eOr, eIf, aNil, aCons, pCons, rNil, rCons, eTup, eLst, eCell, eIx, oNo, oE, eSl, eRev, eAtt, eCall, eMk, eBt, eIsi, eIsc, eIndex, eComp, eLenset, tT, tNot, tAnd, tOr, tYes, gN, gNil, gCons, gT, iE, iK, iR1, iR2, iR3, iEnum, iEnumK, iZip, iZipK, itemsR, negR, revR, slR, kp_sh, kp_ow, okS, okO, Res.bind_ok, Res.bind_bad, truthR, binR, addR, subR, mulR, fdivR, modR, powR, cmpR, leR, ltR, isR, isNon, isiR, isTyp, tyIs, List.any, List.all, lenR, absR, minR, maxR, intR, boolR, listR, tupleR, List.set_cons_zero, List.set_cons_succ, List.getElem?_cons_zero, List.getElem?_cons_succ, List.length_cons, List.length_nil, List.map_cons, List.map_nil, List.replicate_zero, List.replicate_succ, List.cons_append, List.nil_append, List.append_nil, Nat.reduceAdd, Nat.reduceSub, Nat.reduceEqDiff, Nat.reduceMul, Nat.reduceLT, Nat.reduceLeDiff, Nat.zero_add, Option.bind_some, Option.map_some, if_true, if_false, ite_true, ite_false, reduceIte, reduceCtorEq, Bool.not_true, Bool.not_false, Bool.true_and, Bool.false_and, Bool.and_true, Bool.and_false, Bool.or_true, Bool.or_false, Bool.true_or, Bool.false_or, beq_self_eq_true, bne_self_eq_false, ne_eq, not_true_eq_false, not_false_eq_true, Option.some.injEq, Prod.mk.injEq, and_self, and_true, true_and, decide_true, decide_false, Bool.false_eq_true, htk3']
  · unfold E5; simp only [fnR, fnI, fin0, sSeq, sNil, sAsg, sAsgO, sPar, parE, slOf, sIf, sFor, sRet, sRetV, sRetN, sEx, sAug, augR, sAppend, sFrz, frzE, sSetFl, sDead, eC, eV, lookR, CC.e1, CC.e2, eBin, eNeg, eNot, eCmp, eChn, eAnd, eOr, eIf, aNil, aCons, pCons, rNil, rCons, eTup, eLst, eCell, eIx, oNo, oE, eSl, eRev, eAtt, eCall, eMk, eBt, eIsi, eIsc, eIndex, eComp, eLenset, tT, tNot, tAnd, tOr, tYes, gN, gNil, gCons, gT, iE, iK, iR1, iR2, iR3, iEnum, iEnumK, iZip, iZipK, itemsR, negR, revR, slR, kp_sh, kp_ow, okS, okO, Res.bind_ok, Res.bind_bad, truthR, binR, addR, subR, mulR, fdivR, modR, powR, cmpR, leR, ltR, isR, isNon, isiR, isTyp, tyIs, List.any, List.all, lenR, absR, minR, maxR, intR, boolR, listR, tupleR, List.set_cons_zero, List.set_cons_succ, List.getElem?_cons_zero, List.getElem?_cons_succ, List.length_cons, List.length_nil, List.map_cons, List.map_nil, List.replicate_zero, List.replicate_succ, List.cons_append, List.nil_append, List.append_nil, Nat.reduceAdd, Nat.reduceSub, Nat.reduceEqDiff, Nat.reduceMul, Nat.reduceLT, Nat.reduceLeDiff, Nat.zero_add, Option.bind_some, Option.map_some, if_true, if_false, ite_true, ite_false, reduceIte, reduceCtorEq, Bool.not_true, Bool.not_false, Bool.true_and, Bool.false_and, Bool.and_true, Bool.and_false, Bool.or_true, Bool.or_false, Bool.true_or, Bool.false_or, beq_self_eq_true, bne_self_eq_false, ne_eq, not_true_eq_false, not_false_eq_true, Option.some.injEq, Prod.mk.injEq, and_self, and_true, true_and, decide_true, decide_false, Bool.false_eq_true, numbered_ok c t3 (by omega)]
theorem law_plain : ∀ ns : List Int, ns.length ≤ 63 → ∃ t S', F_law [.scr ns] [] = .ok (t, .bl true) S' ∧ t ≠ .pk := by
  intro ns h63
  obtain ⟨ρ', S', hf, k', x2, x3, x4, x5, x6, x7, x8, x9, x10, x11, x12, x13, x14, x15, x16, x17, x18, x19, x20, x21, x22, x23, x24, rfl, rfl⟩ := forL_range (g := gN 2) (body := lawBody)
    (fun j ρ S => ∃ (k : Nat) (x2 x3 x4 x5 x6 x7 x8 x9 x10 x11 x12 x13 x14 x15 x16 x17 x18 x19 x20 x21 x22 x23 x24 : Sl), ρ = [.sh (.scr ns), .sh (.cel 0), x2, x3, x4, x5, x6, x7, x8, x9, x10, x11, x12, x13, x14, x15, x16, x17, x18, x19, x20, x21, x22, x23, x24, .no, .no] ∧ S = SS ns k) 0 6
    [.sh (.scr ns), .sh (.cel 0), .no, .no, .no, .no, .no, .no, .no, .no, .no, .no, .no, .no, .no, .no, .no, .no, .no, .no, .no, .no, .no, .no, .no, .no, .no] (SS ns 0) ⟨0, .no, .no, .no, .no, .no, .no, .no, .no, .no, .no, .no, .no, .no, .no, .no, .no, .no, .no, .no, .no, .no, .no, .no, rfl, rfl⟩ (by
    rintro j ρ S hj ⟨k, x2, x3, x4, x5, x6, x7, x8, x9, x10, x11, x12, x13, x14, x15, x16, x17, x18, x19, x20, x21, x22, x23, x24, rfl, rfl⟩
    obtain ⟨k', y3, y4, y5, y6, y7, y8, y9, y10, y11, y12, y13, y14, y15, y16, y17, y18, y19, y20, y21, y22, y23, y24, h⟩ := turn_ok ns h63 k (.sh (.int (0 + (j : Int)))) x3 x4 x5 x6 x7 x8 x9 x10 x11 x12 x13 x14 x15 x16 x17 x18 x19 x20 x21 x22 x23 x24
    exact ⟨_, _, _, rfl, .inl h, k', _, _, _, _, _, _, _, _, _, _, _, _, _, _, _, _, _, _, _, _, _, _, _, rfl, rfl⟩)
  refine ⟨.sh, SS ns k', fnR_ret rfl (ρ := [.sh (.scr ns), .sh (.cel 0), x2, x3, x4, x5, x6, x7, x8, x9, x10, x11, x12, x13, x14, x15, x16, x17, x18, x19, x20, x21, x22, x23, x24, .no, .no]) ?_ (by simp), by simp⟩
  rw [B_law_eq]
  refine sx (ρ' := [.sh (.scr ns), .sh (.cel 0), .no, .no, .no, .no, .no, .no, .no, .no, .no, .no, .no, .no, .no, .no, .no, .no, .no, .no, .no, .no, .no, .no, .no, .no, .no]) (S' := SS ns 0) ?_ (sx (for_sx (xs := rangeD 0 6) (S1 := SS ns 0) ?_ hf) (sx_ret ?_))
  · simp only [fnR, fnI, fin0, sSeq, sNil, sAsg, sAsgO, sPar, parE, slOf, sIf, sFor, sRet, sRetV, sRetN, sEx, sAug, augR, sAppend, sFrz, frzE, sSetFl, sDead, eC, eV, lookR, CC.e1, CC.e2, eBin, eNeg, eNot, eCmp, eChn, eAnd, eOr, eIf, aNil, aCons, pCons, rNil, rCons, eTup, eLst, eCell, eIx, oNo, oE, eSl, eRev, eAtt, eCall, eMk, eBt, eIsi, eIsc, eIndex, eComp, eLenset, tT, tNot, tAnd, tOr, tYes, gN, gNil, gCons, gT, iE, iK, iR1, iR2, iR3, iEnum, iEnumK, iZip, iZipK, itemsR, negR, revR, slR, kp_sh, kp_ow, okS, okO, Res.bind_ok, Res.bind_bad, truthR, binR, addR, subR, mulR, fdivR, modR, powR, cmpR, leR, ltR, isR, isNon, isiR, isTyp, tyIs, List.any, List.all, lenR, absR, minR, maxR, intR, boolR, listR, tupleR, List.set_cons_zero, List.set_cons_succ, List.getElem?_cons_zero, List.getElem?_cons_succ, List.length_cons, List.length_nil, List.map_cons, List.map_nil, List.replicate_zero, List.replicate_succ, List.cons_append, List.nil_append, List.append_nil, Nat.reduceAdd, Nat.reduceSub, Nat.reduceEqDiff, Nat.reduceMul, Nat.reduceLT, Nat.reduceLeDiff, Nat.zero_add, Option.bind_some, Option.map_some, if_true, if_false, ite_true, ite_false, reduceIte, reduceCtorEq, Bool.not_true, Bool.not_false, Bool.true_and, Bool.false_and, Bool.and_true, Bool.and_false, Bool.or_true, Bool.or_false, Bool.true_or, Bool.false_or, beq_self_eq_true, bne_self_eq_false, ne_eq, not_true_eq_false, not_false_eq_true, Option.some.injEq, Prod.mk.injEq, and_self, and_true, true_and, decide_true, decide_false, Bool.false_eq_true, if_pos (show 2 ≤ szLine by decide)]
    rfl
  · have hr : Rng62 (6 : Int) := rng62 (n := 6) (by decide)
    simp only [fnR, fnI, fin0, sSeq, sNil, sAsg, sAsgO, sPar, parE, slOf, sIf, sFor, sRet, sRetV, sRetN, sEx, sAug, augR, sAppend, sFrz, frzE, sSetFl, sDead, eC, eV, lookR, CC.e1, CC.e2, eBin, eNeg, eNot, eCmp, eChn, eAnd, eOr, eIf, aNil, aCons, pCons, rNil, rCons, eTup, eLst, eCell, eIx, oNo, oE, eSl, eRev, eAtt, eCall, eMk, eBt, eIsi, eIsc, eIndex, eComp, eLenset, tT, tNot, tAnd, tOr, tYes, gN, gNil, gCons, gT, iE, iK, iR1, iR2, iR3, iEnum, iEnumK, iZip, iZipK, itemsR, negR, revR, slR, kp_sh, kp_ow, okS, okO, Res.bind_ok, Res.bind_bad, truthR, binR, addR, subR, mulR, fdivR, modR, powR, cmpR, leR, ltR, isR, isNon, isiR, isTyp, tyIs, List.any, List.all, lenR, absR, minR, maxR, intR, boolR, listR, tupleR, List.set_cons_zero, List.set_cons_succ, List.getElem?_cons_zero, List.getElem?_cons_succ, List.length_cons, List.length_nil, List.map_cons, List.map_nil, List.replicate_zero, List.replicate_succ, List.cons_append, List.nil_append, List.append_nil, Nat.reduceAdd, Nat.reduceSub, Nat.reduceEqDiff, Nat.reduceMul, Nat.reduceLT, Nat.reduceLeDiff, Nat.zero_add, Option.bind_some, Option.map_some, if_true, if_false, ite_true, ite_false, reduceIte, reduceCtorEq, Bool.not_true, Bool.not_false, Bool.true_and, Bool.false_and, Bool.and_true, Bool.and_false, Bool.or_true, Bool.or_false, Bool.true_or, Bool.false_or, beq_self_eq_true, bne_self_eq_false, ne_eq, not_true_eq_false, not_false_eq_true, Option.some.injEq, Prod.mk.injEq, and_self, and_true, true_and, decide_true, decide_false, Bool.false_eq_true, hr]
    rfl
  · simp only [fnR, fnI, fin0, sSeq, sNil, sAsg, sAsgO, sPar, parE, slOf, sIf, sFor, sRet, sRetV, sRetN, sEx, sAug, augR, sAppend, sFrz, frzE, sSetFl, sDead, eC, eV, lookR, CC.e1, CC.e2, eBin, eNeg, eNot, eCmp, eChn, eAnd, eOr, eIf, aNil, aCons, pCons, rNil, rCons, eTup, eLst, eCell, eIx, oNo, oE, eSl, eRev, eAtt, eCall, eMk, eBt, eIsi, eIsc, eIndex, eComp, eLenset, tT, tNot, tAnd, tOr, tYes, gN, gNil, gCons, gT, iE, iK, iR1, iR2, iR3, iEnum, iEnumK, iZip, iZipK, itemsR, negR, revR, slR, kp_sh, kp_ow, okS, okO, Res.bind_ok, Res.bind_bad, truthR, binR, addR, subR, mulR, fdivR, modR, powR, cmpR, leR, ltR, isR, isNon, isiR, isTyp, tyIs, List.any, List.all, lenR, absR, minR, maxR, intR, boolR, listR, tupleR, List.set_cons_zero, List.set_cons_succ, List.getElem?_cons_zero, List.getElem?_cons_succ, List.length_cons, List.length_nil, List.map_cons, List.map_nil, List.replicate_zero, List.replicate_succ, List.cons_append, List.nil_append, List.append_nil, Nat.reduceAdd, Nat.reduceSub, Nat.reduceEqDiff, Nat.reduceMul, Nat.reduceLT, Nat.reduceLeDiff, Nat.zero_add, Option.bind_some, Option.map_some, if_true, if_false, ite_true, ite_false, reduceIte, reduceCtorEq, Bool.not_true, Bool.not_false, Bool.true_and, Bool.false_and, Bool.and_true, Bool.and_false, Bool.or_true, Bool.or_false, Bool.true_or, Bool.false_or, beq_self_eq_true, bne_self_eq_false, ne_eq, not_true_eq_false, not_false_eq_true, Option.some.injEq, Prod.mk.injEq, and_self, and_true, true_and, decide_true, decide_false, Bool.false_eq_true]
end CC.K26
end

section
namespace CC.K26
open CC PySem PySem.Spec PyProof.Rows
open L2 (FunD defArgs defBody defScope inClass)
/-! ### the walk -/
def top (i : Nat) : Stmt := PySem.Challenge.pw_cellcurves_k26_levels_below_levels.main.body.getD i (.Pass ⟨0, 0, 0, 0⟩)
abbrev TT (ca : Nat → Addr) : Tab := ⟨ca, flds, nms⟩
structure Fx (K : PySem.W.Frag) (mg : Str → Option Value) (ca : Nat → Addr) : Prop where
  tab : TabOk K (TT ca)
  f_all : mg "all" = none
  f_any : mg "any" = none
  f_bool : mg "bool" = none
  f_enumerate : mg "enumerate" = none
  f_int : mg "int" = none
  f_isinstance : mg "isinstance" = none
  f_len : mg "len" = none
  f_list : mg "list" = none
  f_range : mg "range" = none
  f_set : mg "set" = none
  f_sorted : mg "sorted" = none
  f_tuple : mg "tuple" = none
  g_MOST_STATES : ∃ t, mg "MOST_STATES" = some (.int 16 t)
  g_MOST_LEVEL : ∃ t, mg "MOST_LEVEL" = some (.int 300 t)
  k_Curve : mg "Curve" = some (.ref (ca c_Curve))
  i_Curve : C8.InsC K (ca c_Curve)
section
variable {P : Program} {w : World} {K : PySem.W.Frag} {mg : Str → Option Value} {base : Heap} {ca : Nat → Addr} {f : Addr} {fd : FuncData}
theorem ok_is_integer (fx : Fx K mg ca)  (F : FunD K "is_integer" "is_integer" (defArgs (top 5)) (defBody (top 5)) (defScope (top 5)) [] [] f fd) : L2.FnOk P w K mg base L2.CX0 1 f fd ["thing"] (spF K (TT ca) 1 F_is_integer) := by
  have sc : L2.FnScope ["thing"] ["thing"] (defScope (top 5)) := ⟨rfl, rfl, rfl, by decide +kernel, rfl, by decide +kernel, by decide +kernel⟩
  exact ok_fn F sc rfl rfl fun Fr cdv A outer s H E hr => have hu := uo hr;
    w_sSeq (w_sRet (w_and (w_isi1 .int fx.f_isinstance fx.f_int (w_var (L2.pv 0))) (w_one1 (w_not (w_isi1 .bool fx.f_isinstance fx.f_bool (w_var (L2.pv 0)))))))
    (w_sNil)
theorem ok_is_row (fx : Fx K mg ca)  (F : FunD K "is_row" "is_row" (defArgs (top 6)) (defBody (top 6)) (defScope (top 6)) [] [] f fd) : L2.FnOk P w K mg base L2.CX0 1 f fd ["thing"] (spF K (TT ca) 1 F_is_row) := by
  have sc : L2.FnScope ["thing"] ["thing"] (defScope (top 6)) := ⟨rfl, rfl, rfl, by decide +kernel, rfl, by decide +kernel, by decide +kernel⟩
  exact ok_fn F sc rfl rfl fun Fr cdv A outer s H E hr => have hu := uo hr;
    w_sSeq (w_sRet (w_isi2 .list .tuple fx.f_isinstance fx.f_list fx.f_tuple (w_var (L2.pv 0))))
    (w_sNil)
theorem ok_is_number (fx : Fx K mg ca) (C_is_integer : CallOk P w K mg base (TT ca) 1 "is_integer" 1 F_is_integer) (F : FunD K "is_number" "is_number" (defArgs (top 7)) (defBody (top 7)) (defScope (top 7)) [] [] f fd) : L2.FnOk P w K mg base L2.CX0 2 f fd ["thing", "least", "most"] (spF K (TT ca) 3 F_is_number) := by
  have sc : L2.FnScope ["thing", "least", "most"] ["thing", "least", "most"] (defScope (top 7)) := ⟨rfl, rfl, rfl, by decide +kernel, rfl, by decide +kernel, by decide +kernel⟩
  exact ok_fn F sc rfl rfl fun Fr cdv A outer s H E hr => have hu := uo hr;
    w_sSeq (w_sRet (w_and (w_call C_is_integer (hr.mono (by decide)) (w_aCons (w_var (L2.pv 0)) (w_aNil))) (w_one1 (w_chn (op := .le) (op' := .le) hu (w_var (L2.pv 1)) (w_var (L2.pv 0)) (w_var (L2.pv 2))))))
    (w_sNil)
theorem ok_Curve___init__ (fx : Fx K mg ca) (C_is_number : CallOk P w K mg base (TT ca) 2 "is_number" 3 F_is_number) (C_is_row : CallOk P w K mg base (TT ca) 1 "is_row" 1 F_is_row) (F : FunD K "__init__" "Curve.__init__" (defArgs (inClass (top 11) 0)) (defBody (inClass (top 11) 0)) (defScope (inClass (top 11) 0)) [] [] f fd) : L2.FnOk P w K mg base L2.CX0 3 f fd ["self", "base", "rows"] (spI K (TT ca) 3 F_Curve___init__) := by
  have sc : L2.FnScope ["self", "base", "rows", "state", "row", "pair", "part", "late"] ["self", "base", "rows"] (defScope (inClass (top 11) 0)) := ⟨rfl, rfl, rfl, by decide +kernel, rfl, by decide +kernel, by decide +kernel⟩
  exact ok_fnI F sc rfl rfl fun Fr cdv A outer s H E hr => have hu := uo hr;
    w_sSeq (w_sIf (w_tNot (w_tT (w_call C_is_number (hr.mono (by decide)) (w_aCons (w_var (L2.pv 1)) (w_aCons (w_int) (w_aCons (w_int) (w_aNil)))))))
    (w_sSeq (w_sDead)
    (w_sNil))
    (w_sNil))
    (w_sSeq (w_sIf (w_tW (w_tOr (w_tNot (w_tT (w_call C_is_row (hr.mono (by decide)) (w_aCons (w_var (L2.pv 2)) (w_aNil))))) (w_tOr1 (w_tNot (w_tChn (op := .le) (op' := .le) hu (w_int) (w_bt b_len fx.f_len (w_pCons (w_var (L2.pv 2)) (w_pNil))) (w_gint fx.g_MOST_STATES))))))
    (w_sSeq (w_sDead)
    (w_sNil))
    (w_sNil))
    (w_sSeq (w_sFor (vs := [3, 4]) (w_iEnumK fx.f_enumerate (w_var (L2.pv 2))) (w_gT (w_gCons (w_gN sc.nd) (w_gCons (w_gN sc.nd) (w_gNil))))
    (w_sSeq (w_sIf (w_tW (w_tOr (w_tNot (w_tT (w_call C_is_row (hr.mono (by decide)) (w_aCons (w_var (L2.pv 4)) (w_aNil))))) (w_tOr1 (w_tCmp (op := .ne) hu (w_bt b_len fx.f_len (w_pCons (w_var (L2.pv 4)) (w_pNil))) (w_bin (op := .mul) (w_var (L2.pv 1)) (w_var (L2.pv 1)))))))
    (w_sSeq (w_sDead)
    (w_sNil))
    (w_sNil))
    (w_sSeq (w_sIf (w_tNot (w_tT (w_bt b_all fx.f_all (w_pCons (w_comp [("pair", 5)] sc.nd (w_iE (w_var (L2.pv 4))) (L2.blkOk_by (by kernel_rfl)) (fun _ _ _ _ _ => w_gN sc.nd) (fun _ _ _ _ _ => w_ifs0) (fun _ _ _ _ _ => w_and (w_isi1 .tuple fx.f_isinstance fx.f_tuple (w_var (L2.pv 5))) (w_one1 (w_cmp (op := .eq) hu (w_bt b_len fx.f_len (w_pCons (w_var (L2.pv 5)) (w_pNil))) (w_int))))) (w_pNil)))))
    (w_sSeq (w_sDead)
    (w_sNil))
    (w_sNil))
    (w_sSeq (w_sIf (w_tNot (w_tT (w_bt b_all fx.f_all (w_pCons (w_comp [("part", 6), ("late", 7)] sc.nd (w_iE (w_var (L2.pv 4))) (L2.blkOk_by (by kernel_rfl)) (fun _ _ _ _ _ => w_gT (w_gCons (w_gN sc.nd) (w_gCons (w_gN sc.nd) (w_gNil)))) (fun _ _ _ _ _ => w_ifs0) (fun _ _ _ _ _ => w_call C_is_number (hr.mono (by decide)) (w_aCons (w_var (L2.pv 7)) (w_aCons (w_int) (w_aCons (w_bin (op := .sub) (w_bt b_len fx.f_len (w_pCons (w_var (L2.pv 2)) (w_pNil))) (w_int)) (w_aNil)))))) (w_pNil)))))
    (w_sSeq (w_sDead)
    (w_sNil))
    (w_sNil))
    (w_sSeq (w_sIf (w_tNot (w_tT (w_bt b_all fx.f_all (w_pCons (w_comp [("part", 6), ("late", 7)] sc.nd (w_iE (w_var (L2.pv 4))) (L2.blkOk_by (by kernel_rfl)) (fun _ _ _ _ _ => w_gT (w_gCons (w_gN sc.nd) (w_gCons (w_gN sc.nd) (w_gNil)))) (fun _ _ _ _ _ => w_ifs0) (fun _ _ _ _ _ => w_call C_is_number (hr.mono (by decide)) (w_aCons (w_var (L2.pv 6)) (w_aCons (w_int) (w_aCons (w_bin (op := .sub) (w_bin (op := .mul) (w_var (L2.pv 1)) (w_var (L2.pv 1))) (w_int)) (w_aNil)))))) (w_pNil)))))
    (w_sSeq (w_sDead)
    (w_sNil))
    (w_sNil))
    (w_sSeq (w_sIf (w_tCmp (op := .lt) hu (w_lenset fx.f_len fx.f_set (w_comp [("part", 6), ("late", 7)] sc.nd (w_iE (w_var (L2.pv 4))) (L2.blkOk_by (by kernel_rfl)) (fun _ _ _ _ _ => w_gT (w_gCons (w_gN sc.nd) (w_gCons (w_gN sc.nd) (w_gNil)))) (fun _ _ _ _ _ => w_ifs0) (fun _ _ _ _ _ => w_var (L2.pv 6)))) (w_bin (op := .mul) (w_var (L2.pv 1)) (w_var (L2.pv 1))))
    (w_sSeq (w_sDead)
    (w_sNil))
    (w_sNil))
    (w_sNil)))))))
    (w_sSeq (w_sSetFl fx.tab rfl (L2.pv 0) (w_var (L2.pv 1)))
    (w_sSeq (w_sSetFl fx.tab rfl (L2.pv 0) (w_bt b_tuple fx.f_tuple (w_pCons (w_comp [("row", 4)] sc.nd (w_iE (w_var (L2.pv 2))) (L2.blkOk_by (by kernel_rfl)) (fun _ _ _ _ _ => w_gN sc.nd) (fun _ _ _ _ _ => w_ifs0) (fun _ _ _ _ _ => w_bt b_tuple fx.f_tuple (w_pCons (w_var (L2.pv 4)) (w_pNil)))) (w_pNil))))
    (w_sNil)))))
theorem ok_Curve___eq__ (fx : Fx K mg ca)  (F : FunD K "__eq__" "Curve.__eq__" (defArgs (inClass (top 11) 1)) (defBody (inClass (top 11) 1)) (defScope (inClass (top 11) 1)) [] [] f fd) : L2.FnOk P w K mg base L2.CX0 1 f fd ["self", "other"] (spF K (TT ca) 2 F_Curve___eq__) := by
  have sc : L2.FnScope ["self", "other"] ["self", "other"] (defScope (inClass (top 11) 1)) := ⟨rfl, rfl, rfl, by decide +kernel, rfl, by decide +kernel, by decide +kernel⟩
  exact ok_fn F sc rfl rfl fun Fr cdv A outer s H E hr => have hu := uo hr;
    w_sSeq (w_sRet (w_and (w_isc fx.i_Curve fx.f_isinstance fx.k_Curve (w_var (L2.pv 1))) (w_one1 (w_cmp (op := .eq) hu (w_tup (w_aCons (w_att fx.tab rfl (w_var (L2.pv 0))) (w_aCons (w_att fx.tab rfl (w_var (L2.pv 0))) (w_aNil)))) (w_tup (w_aCons (w_att fx.tab rfl (w_var (L2.pv 1))) (w_aCons (w_att fx.tab rfl (w_var (L2.pv 1))) (w_aNil))))))))
    (w_sNil)
theorem ok_Curve_parts (fx : Fx K mg ca)  (F : FunD K "parts" "Curve.parts" (defArgs (inClass (top 11) 2)) (defBody (inClass (top 11) 2)) (defScope (inClass (top 11) 2)) [] [] f fd) : L2.FnOk P w K mg base L2.CX0 1 f fd ["self"] (spF K (TT ca) 1 F_Curve_parts) := by
  have sc : L2.FnScope ["self"] ["self"] (defScope (inClass (top 11) 2)) := ⟨rfl, rfl, rfl, by decide +kernel, rfl, by decide +kernel, by decide +kernel⟩
  exact ok_fn F sc rfl rfl fun Fr cdv A outer s H E hr => have hu := uo hr;
    w_sSeq (w_sRet (w_bin (op := .mul) (w_att fx.tab rfl (w_var (L2.pv 0))) (w_att fx.tab rfl (w_var (L2.pv 0)))))
    (w_sNil)
theorem ok_Curve_place (fx : Fx K mg ca)  (F : FunD K "place" "Curve.place" (defArgs (inClass (top 11) 3)) (defBody (inClass (top 11) 3)) (defScope (inClass (top 11) 3)) [] [] f fd) : L2.FnOk P w K mg base L2.CX0 1 f fd ["self", "state", "part"] (spF K (TT ca) 3 F_Curve_place) := by
  have sc : L2.FnScope ["self", "state", "part", "one", "late"] ["self", "state", "part"] (defScope (inClass (top 11) 3)) := ⟨rfl, rfl, rfl, by decide +kernel, rfl, by decide +kernel, by decide +kernel⟩
  exact ok_fn F sc rfl rfl fun Fr cdv A outer s H E hr => have hu := uo hr;
    w_sSeq (w_sRet (w_index hu (w_comp [("one", 3), ("late", 4)] sc.nd (w_iE (w_ix (w_att fx.tab rfl (w_var (L2.pv 0))) (w_var (L2.pv 1)))) (L2.blkOk_by (by kernel_rfl)) (fun _ _ _ _ _ => w_gT (w_gCons (w_gN sc.nd) (w_gCons (w_gN sc.nd) (w_gNil)))) (fun _ _ _ _ _ => w_ifs0) (fun _ _ _ _ _ => w_var (L2.pv 3))) (w_var (L2.pv 2))))
    (w_sNil)
theorem ok_check_curve (fx : Fx K mg ca)  (F : FunD K "check_curve" "check_curve" (defArgs (top 12)) (defBody (top 12)) (defScope (top 12)) [] [] f fd) : L2.FnOk P w K mg base L2.CX0 1 f fd ["curve"] (spF K (TT ca) 1 F_check_curve) := by
  have sc : L2.FnScope ["curve"] ["curve"] (defScope (top 12)) := ⟨rfl, rfl, rfl, by decide +kernel, rfl, by decide +kernel, by decide +kernel⟩
  exact ok_fn F sc rfl rfl fun Fr cdv A outer s H E hr => have hu := uo hr;
    w_sSeq (w_sIf (w_tNot (w_tT (w_isc fx.i_Curve fx.f_isinstance fx.k_Curve (w_var (L2.pv 0)))))
    (w_sSeq (w_sDead)
    (w_sNil))
    (w_sNil))
    (w_sNil)
theorem ok_check_level (fx : Fx K mg ca) (C_check_curve : CallOk P w K mg base (TT ca) 1 "check_curve" 1 F_check_curve) (C_is_number : CallOk P w K mg base (TT ca) 2 "is_number" 3 F_is_number) (F : FunD K "check_level" "check_level" (defArgs (top 13)) (defBody (top 13)) (defScope (top 13)) [] [] f fd) : L2.FnOk P w K mg base L2.CX0 3 f fd ["curve", "level"] (spF K (TT ca) 2 F_check_level) := by
  have sc : L2.FnScope ["curve", "level"] ["curve", "level"] (defScope (top 13)) := ⟨rfl, rfl, rfl, by decide +kernel, rfl, by decide +kernel, by decide +kernel⟩
  exact ok_fn F sc rfl rfl fun Fr cdv A outer s H E hr => have hu := uo hr;
    w_sSeq (w_sEx (w_call C_check_curve (hr.mono (by decide)) (w_aCons (w_var (L2.pv 0)) (w_aNil))))
    (w_sSeq (w_sIf (w_tNot (w_tT (w_call C_is_number (hr.mono (by decide)) (w_aCons (w_var (L2.pv 1)) (w_aCons (w_int) (w_aCons (w_gint fx.g_MOST_LEVEL) (w_aNil)))))))
    (w_sSeq (w_sDead)
    (w_sNil))
    (w_sNil))
    (w_sNil))
theorem ok_power (fx : Fx K mg ca)  (F : FunD K "power" "power" (defArgs (top 15)) (defBody (top 15)) (defScope (top 15)) [] [] f fd) : L2.FnOk P w K mg base L2.CX0 1 f fd ["number", "times"] (spF K (TT ca) 2 F_power) := by
  have sc : L2.FnScope ["number", "times", "found", "turn"] ["number", "times"] (defScope (top 15)) := ⟨rfl, rfl, rfl, by decide +kernel, rfl, by decide +kernel, by decide +kernel⟩
  exact ok_fn F sc rfl rfl fun Fr cdv A outer s H E hr => have hu := uo hr;
    w_sSeq (w_asg (vs := [2]) (w_int) (w_gN sc.nd))
    (w_sSeq (w_sFor (vs := [3]) (w_iR1 fx.f_range (w_var (L2.pv 1))) (w_gN sc.nd)
    (w_sSeq (w_sAug (op := .mul) (w_var (L2.pv 0)) sc.nd)
    (w_sNil)))
    (w_sSeq (w_sRet (w_var (L2.pv 2)))
    (w_sNil)))
theorem ok_side (fx : Fx K mg ca) (C_check_level : CallOk P w K mg base (TT ca) 3 "check_level" 2 F_check_level) (C_power : CallOk P w K mg base (TT ca) 1 "power" 2 F_power) (F : FunD K "side" "side" (defArgs (top 14)) (defBody (top 14)) (defScope (top 14)) [] [] f fd) : L2.FnOk P w K mg base L2.CX0 4 f fd ["curve", "level"] (spF K (TT ca) 2 F_side) := by
  have sc : L2.FnScope ["curve", "level"] ["curve", "level"] (defScope (top 14)) := ⟨rfl, rfl, rfl, by decide +kernel, rfl, by decide +kernel, by decide +kernel⟩
  exact ok_fn F sc rfl rfl fun Fr cdv A outer s H E hr => have hu := uo hr;
    w_sSeq (w_sEx (w_call C_check_level (hr.mono (by decide)) (w_aCons (w_var (L2.pv 0)) (w_aCons (w_var (L2.pv 1)) (w_aNil)))))
    (w_sSeq (w_sRet (w_call C_power (hr.mono (by decide)) (w_aCons (w_att fx.tab rfl (w_var (L2.pv 0))) (w_aCons (w_var (L2.pv 1)) (w_aNil)))))
    (w_sNil))
theorem ok_check_cell (fx : Fx K mg ca) (C_is_number : CallOk P w K mg base (TT ca) 2 "is_number" 3 F_is_number) (C_side : CallOk P w K mg base (TT ca) 4 "side" 2 F_side) (F : FunD K "check_cell" "check_cell" (defArgs (top 16)) (defBody (top 16)) (defScope (top 16)) [] [] f fd) : L2.FnOk P w K mg base L2.CX0 5 f fd ["curve", "level", "x", "y"] (spF K (TT ca) 4 F_check_cell) := by
  have sc : L2.FnScope ["curve", "level", "x", "y", "top"] ["curve", "level", "x", "y"] (defScope (top 16)) := ⟨rfl, rfl, rfl, by decide +kernel, rfl, by decide +kernel, by decide +kernel⟩
  exact ok_fn F sc rfl rfl fun Fr cdv A outer s H E hr => have hu := uo hr;
    w_sSeq (w_asg (vs := [4]) (w_bin (op := .sub) (w_call C_side (hr.mono (by decide)) (w_aCons (w_var (L2.pv 0)) (w_aCons (w_var (L2.pv 1)) (w_aNil)))) (w_int)) (w_gN sc.nd))
    (w_sSeq (w_sIf (w_tNot (w_tT (w_call C_is_number (hr.mono (by decide)) (w_aCons (w_var (L2.pv 2)) (w_aCons (w_int) (w_aCons (w_var (L2.pv 4)) (w_aNil)))))))
    (w_sSeq (w_sDead)
    (w_sNil))
    (w_sNil))
    (w_sSeq (w_sIf (w_tNot (w_tT (w_call C_is_number (hr.mono (by decide)) (w_aCons (w_var (L2.pv 3)) (w_aCons (w_int) (w_aCons (w_var (L2.pv 4)) (w_aNil)))))))
    (w_sSeq (w_sDead)
    (w_sNil))
    (w_sNil))
    (w_sNil)))
theorem ok_check_number (fx : Fx K mg ca) (C_check_level : CallOk P w K mg base (TT ca) 3 "check_level" 2 F_check_level) (C_is_number : CallOk P w K mg base (TT ca) 2 "is_number" 3 F_is_number) (C_power : CallOk P w K mg base (TT ca) 1 "power" 2 F_power) (C_Curve_parts : MethOk P w K mg base (TT ca) 1 c_Curve "parts" 1 F_Curve_parts) (F : FunD K "check_number" "check_number" (defArgs (top 17)) (defBody (top 17)) (defScope (top 17)) [] [] f fd) : L2.FnOk P w K mg base L2.CX0 4 f fd ["curve", "level", "number"] (spF K (TT ca) 3 F_check_number) := by
  have sc : L2.FnScope ["curve", "level", "number"] ["curve", "level", "number"] (defScope (top 17)) := ⟨rfl, rfl, rfl, by decide +kernel, rfl, by decide +kernel, by decide +kernel⟩
  exact ok_fn F sc rfl rfl fun Fr cdv A outer s H E hr => have hu := uo hr;
    w_sSeq (w_sEx (w_call C_check_level (hr.mono (by decide)) (w_aCons (w_var (L2.pv 0)) (w_aCons (w_var (L2.pv 1)) (w_aNil)))))
    (w_sSeq (w_sIf (w_tNot (w_tT (w_call C_is_number (hr.mono (by decide)) (w_aCons (w_var (L2.pv 2)) (w_aCons (w_int) (w_aCons (w_bin (op := .sub) (w_call C_power (hr.mono (by decide)) (w_aCons (w_meth0 C_Curve_parts (hr.mono (by decide)) (w_var (L2.pv 0))) (w_aCons (w_var (L2.pv 1)) (w_aNil)))) (w_int)) (w_aNil)))))))
    (w_sSeq (w_sDead)
    (w_sNil))
    (w_sNil))
    (w_sNil))
theorem ok_digits_of (fx : Fx K mg ca) (C_check_cell : CallOk P w K mg base (TT ca) 5 "check_cell" 4 F_check_cell) (C_side : CallOk P w K mg base (TT ca) 4 "side" 2 F_side) (C_Curve_place : MethOk P w K mg base (TT ca) 1 c_Curve "place" 3 F_Curve_place) (F : FunD K "digits_of" "digits_of" (defArgs (top 18)) (defBody (top 18)) (defScope (top 18)) [] [] f fd) : L2.FnOk P w K mg base L2.CX0 6 f fd ["curve", "level", "x", "y"] (spF K (TT ca) 4 F_digits_of) := by
  have sc : L2.FnScope ["curve", "level", "x", "y", "state", "found", "size", "turn", "part", "place"] ["curve", "level", "x", "y"] (defScope (top 18)) := ⟨rfl, rfl, rfl, by decide +kernel, rfl, by decide +kernel, by decide +kernel⟩
  exact ok_fn F sc rfl rfl fun Fr cdv A outer s H E hr => have hu := uo hr;
    w_sSeq (w_sEx (w_call C_check_cell (hr.mono (by decide)) (w_aCons (w_var (L2.pv 0)) (w_aCons (w_var (L2.pv 1)) (w_aCons (w_var (L2.pv 2)) (w_aCons (w_var (L2.pv 3)) (w_aNil)))))))
    (w_sSeq (w_par3 (w_rCons (w_int) (w_rCons (w_lst (w_aNil)) (w_rCons (w_call C_side (hr.mono (by decide)) (w_aCons (w_var (L2.pv 0)) (w_aCons (w_var (L2.pv 1)) (w_aNil)))) (w_rNil)))) sc.nd)
    (w_sSeq (w_sFor (vs := [7]) (w_iR1 fx.f_range (w_var (L2.pv 1))) (w_gN sc.nd)
    (w_sSeq (w_sAug (op := .fdiv) (w_att fx.tab rfl (w_var (L2.pv 0))) sc.nd)
    (w_sSeq (w_asg (vs := [8]) (w_bin (op := .add) (w_bin (op := .mul) (w_bin (op := .mod) (w_bin (op := .fdiv) (w_var (L2.pv 3)) (w_var (L2.pv 6))) (w_att fx.tab rfl (w_var (L2.pv 0)))) (w_att fx.tab rfl (w_var (L2.pv 0)))) (w_bin (op := .mod) (w_bin (op := .fdiv) (w_var (L2.pv 2)) (w_var (L2.pv 6))) (w_att fx.tab rfl (w_var (L2.pv 0))))) (w_gN sc.nd))
    (w_sSeq (w_asg (vs := [9]) (w_meth C_Curve_place (hr.mono (by decide)) (w_var (L2.pv 0)) (w_aCons (w_var (L2.pv 4)) (w_aCons (w_var (L2.pv 8)) (w_aNil)))) (w_gN sc.nd))
    (w_sSeq (w_sAppend (L2.pv 5) (w_var (L2.pv 9)))
    (w_sSeq (w_asg (vs := [4]) (w_ix (w_ix (w_ix (w_att fx.tab rfl (w_var (L2.pv 0))) (w_var (L2.pv 4))) (w_var (L2.pv 9))) (w_int)) (w_gN sc.nd))
    (w_sNil)))))))
    (w_sSeq (w_sRetV (L2.pv 5))
    (w_sNil))))
theorem ok_number_of (fx : Fx K mg ca) (C_digits_of : CallOk P w K mg base (TT ca) 6 "digits_of" 4 F_digits_of) (C_Curve_parts : MethOk P w K mg base (TT ca) 1 c_Curve "parts" 1 F_Curve_parts) (F : FunD K "number_of" "number_of" (defArgs (top 19)) (defBody (top 19)) (defScope (top 19)) [] [] f fd) : L2.FnOk P w K mg base L2.CX0 7 f fd ["curve", "level", "x", "y"] (spF K (TT ca) 4 F_number_of) := by
  have sc : L2.FnScope ["curve", "level", "x", "y", "found", "place"] ["curve", "level", "x", "y"] (defScope (top 19)) := ⟨rfl, rfl, rfl, by decide +kernel, rfl, by decide +kernel, by decide +kernel⟩
  exact ok_fn F sc rfl rfl fun Fr cdv A outer s H E hr => have hu := uo hr;
    w_sSeq (w_asg (vs := [4]) (w_int) (w_gN sc.nd))
    (w_sSeq (w_sFor (vs := [5]) (w_iK (w_call C_digits_of (hr.mono (by decide)) (w_aCons (w_var (L2.pv 0)) (w_aCons (w_var (L2.pv 1)) (w_aCons (w_var (L2.pv 2)) (w_aCons (w_var (L2.pv 3)) (w_aNil))))))) (w_gN sc.nd)
    (w_sSeq (w_asg (vs := [4]) (w_bin (op := .add) (w_bin (op := .mul) (w_var (L2.pv 4)) (w_meth0 C_Curve_parts (hr.mono (by decide)) (w_var (L2.pv 0)))) (w_var (L2.pv 5))) (w_gN sc.nd))
    (w_sNil)))
    (w_sSeq (w_sRet (w_var (L2.pv 4)))
    (w_sNil)))
theorem ok_places_of (fx : Fx K mg ca) (C_check_number : CallOk P w K mg base (TT ca) 4 "check_number" 3 F_check_number) (C_Curve_parts : MethOk P w K mg base (TT ca) 1 c_Curve "parts" 1 F_Curve_parts) (F : FunD K "places_of" "places_of" (defArgs (top 20)) (defBody (top 20)) (defScope (top 20)) [] [] f fd) : L2.FnOk P w K mg base L2.CX0 5 f fd ["curve", "level", "number"] (spF K (TT ca) 3 F_places_of) := by
  have sc : L2.FnScope ["curve", "level", "number", "found", "turn"] ["curve", "level", "number"] (defScope (top 20)) := ⟨rfl, rfl, rfl, by decide +kernel, rfl, by decide +kernel, by decide +kernel⟩
  exact ok_fn F sc rfl rfl fun Fr cdv A outer s H E hr => have hu := uo hr;
    w_sSeq (w_sEx (w_call C_check_number (hr.mono (by decide)) (w_aCons (w_var (L2.pv 0)) (w_aCons (w_var (L2.pv 1)) (w_aCons (w_var (L2.pv 2)) (w_aNil))))))
    (w_sSeq (w_asgO (w_lst (w_aNil)) sc.nd)
    (w_sSeq (w_sFor (vs := [4]) (w_iR1 fx.f_range (w_var (L2.pv 1))) (w_gN sc.nd)
    (w_sSeq (w_sAppend (L2.pv 3) (w_bin (op := .mod) (w_var (L2.pv 2)) (w_meth0 C_Curve_parts (hr.mono (by decide)) (w_var (L2.pv 0)))))
    (w_sSeq (w_sAug (op := .fdiv) (w_meth0 C_Curve_parts (hr.mono (by decide)) (w_var (L2.pv 0))) sc.nd)
    (w_sNil))))
    (w_sSeq (w_sRet (w_rev (w_var (L2.pv 3))))
    (w_sNil))))
theorem ok_cell_at (fx : Fx K mg ca)  (F : FunD K "cell_at" "cell_at" (defArgs (top 22)) (defBody (top 22)) (defScope (top 22)) [] [] f fd) : L2.FnOk P w K mg base L2.CX0 1 f fd ["curve", "state", "places"] (spF K (TT ca) 3 F_cell_at) := by
  have sc : L2.FnScope ["curve", "state", "places", "x", "y", "place", "part"] ["curve", "state", "places"] (defScope (top 22)) := ⟨rfl, rfl, rfl, by decide +kernel, rfl, by decide +kernel, by decide +kernel⟩
  exact ok_fn F sc rfl rfl fun Fr cdv A outer s H E hr => have hu := uo hr;
    w_sSeq (w_parT (w_rCons (w_int) (w_rCons (w_int) (w_rNil))) (w_nms sc.nd (w_nms sc.nd (w_nms0))))
    (w_sSeq (w_sFor (vs := [5]) (w_iK (w_var (L2.pv 2))) (w_gN sc.nd)
    (w_sSeq (w_asg (vs := [6, 1]) (w_ix (w_ix (w_att fx.tab rfl (w_var (L2.pv 0))) (w_var (L2.pv 1))) (w_var (L2.pv 5))) (w_gT (w_gCons (w_gN sc.nd) (w_gCons (w_gN sc.nd) (w_gNil)))))
    (w_sSeq (w_par2 (w_rCons (w_bin (op := .add) (w_bin (op := .mul) (w_var (L2.pv 3)) (w_att fx.tab rfl (w_var (L2.pv 0)))) (w_bin (op := .mod) (w_var (L2.pv 6)) (w_att fx.tab rfl (w_var (L2.pv 0))))) (w_rCons (w_bin (op := .add) (w_bin (op := .mul) (w_var (L2.pv 4)) (w_att fx.tab rfl (w_var (L2.pv 0)))) (w_bin (op := .fdiv) (w_var (L2.pv 6)) (w_att fx.tab rfl (w_var (L2.pv 0))))) (w_rNil))) sc.nd)
    (w_sNil))))
    (w_sSeq (w_sRet (w_tup (w_aCons (w_var (L2.pv 3)) (w_aCons (w_var (L2.pv 4)) (w_aNil)))))
    (w_sNil)))
theorem ok_cell_of (fx : Fx K mg ca) (C_cell_at : CallOk P w K mg base (TT ca) 1 "cell_at" 3 F_cell_at) (C_places_of : CallOk P w K mg base (TT ca) 5 "places_of" 3 F_places_of) (F : FunD K "cell_of" "cell_of" (defArgs (top 21)) (defBody (top 21)) (defScope (top 21)) [] [] f fd) : L2.FnOk P w K mg base L2.CX0 6 f fd ["curve", "level", "number"] (spF K (TT ca) 3 F_cell_of) := by
  have sc : L2.FnScope ["curve", "level", "number"] ["curve", "level", "number"] (defScope (top 21)) := ⟨rfl, rfl, rfl, by decide +kernel, rfl, by decide +kernel, by decide +kernel⟩
  exact ok_fn F sc rfl rfl fun Fr cdv A outer s H E hr => have hu := uo hr;
    w_sSeq (w_sRet (w_call C_cell_at (hr.mono (by decide)) (w_aCons (w_var (L2.pv 0)) (w_aCons (w_int) (w_aCons (w_call C_places_of (hr.mono (by decide)) (w_aCons (w_var (L2.pv 0)) (w_aCons (w_var (L2.pv 1)) (w_aCons (w_var (L2.pv 2)) (w_aNil))))) (w_aNil))))))
    (w_sNil)
theorem ok_state_of (fx : Fx K mg ca) (C_places_of : CallOk P w K mg base (TT ca) 5 "places_of" 3 F_places_of) (F : FunD K "state_of" "state_of" (defArgs (top 23)) (defBody (top 23)) (defScope (top 23)) [] [] f fd) : L2.FnOk P w K mg base L2.CX0 6 f fd ["curve", "level", "number"] (spF K (TT ca) 3 F_state_of) := by
  have sc : L2.FnScope ["curve", "level", "number", "state", "place"] ["curve", "level", "number"] (defScope (top 23)) := ⟨rfl, rfl, rfl, by decide +kernel, rfl, by decide +kernel, by decide +kernel⟩
  exact ok_fn F sc rfl rfl fun Fr cdv A outer s H E hr => have hu := uo hr;
    w_sSeq (w_asg (vs := [3]) (w_int) (w_gN sc.nd))
    (w_sSeq (w_sFor (vs := [4]) (w_iK (w_call C_places_of (hr.mono (by decide)) (w_aCons (w_var (L2.pv 0)) (w_aCons (w_var (L2.pv 1)) (w_aCons (w_var (L2.pv 2)) (w_aNil)))))) (w_gN sc.nd)
    (w_sSeq (w_asg (vs := [3]) (w_ix (w_ix (w_ix (w_att fx.tab rfl (w_var (L2.pv 0))) (w_var (L2.pv 3))) (w_var (L2.pv 4))) (w_int)) (w_gN sc.nd))
    (w_sNil)))
    (w_sSeq (w_sRet (w_var (L2.pv 3)))
    (w_sNil)))
theorem ok__law_number (fx : Fx K mg ca)  (F : FunD K "_law_number" "_law_number" (defArgs (top 25)) (defBody (top 25)) (defScope (top 25)) [] [] f fd) : L2.FnOk P w K mg base L2.CX0 1 f fd ["script", "index"] (spF K (TT ca) 2 F__law_number) := by
  have sc : L2.FnScope ["script", "index", "cell", "turn", "rest", "step", "blend"] ["script", "index"] (defScope (top 25)) := ⟨rfl, rfl, rfl, by decide +kernel, rfl, by decide +kernel, by decide +kernel⟩
  exact ok_fn F sc rfl rfl fun Fr cdv A outer s H E hr => have hu := uo hr;
    w_sSeq (w_asg (vs := [2, 3]) (w_if (w_tCmp (op := .ne) hu (w_var (L2.pv 0)) (w_lst (w_aNil))) (w_tup (w_aCons (w_ix (w_var (L2.pv 0)) (w_bin (op := .mod) (w_var (L2.pv 1)) (w_bt b_len fx.f_len (w_pCons (w_var (L2.pv 0)) (w_pNil))))) (w_aCons (w_bin (op := .fdiv) (w_var (L2.pv 1)) (w_bt b_len fx.f_len (w_pCons (w_var (L2.pv 0)) (w_pNil)))) (w_aNil)))) (w_tup (w_aCons (w_int) (w_aCons (w_int) (w_aNil))))) (w_gT (w_gCons (w_gN sc.nd) (w_gCons (w_gN sc.nd) (w_gNil)))))
    (w_sSeq (w_asg (vs := [4]) (w_if (w_tCmp (op := .lt) hu (w_var (L2.pv 3)) (w_int)) (w_bin (op := .sub) (w_var (L2.pv 2)) (w_bin (op := .pow) (w_int) (w_int))) (w_int)) (w_gN sc.nd))
    (w_sSeq (w_sFor (vs := [5]) (w_iR1 fx.f_range (w_bin (op := .mod) (w_bt b_int fx.f_int (w_pCons (w_var (L2.pv 3)) (w_pNil))) (w_int))) (w_gN sc.nd)
    (w_sSeq (w_asg (vs := [4]) (w_bin (op := .fdiv) (w_var (L2.pv 4)) (w_int)) (w_gN sc.nd))
    (w_sNil)))
    (w_sSeq (w_sIf (w_tCmp (op := .gt) hu (w_var (L2.pv 4)) (w_int))
    (w_sSeq (w_sRet (w_bin (op := .mod) (w_bt b_int fx.f_int (w_pCons (w_var (L2.pv 4)) (w_pNil))) (w_int)))
    (w_sNil))
    (w_sNil))
    (w_sSeq (w_asg (vs := [6]) (w_bin (op := .mod) (w_bin (op := .add) (w_bin (op := .mul) (w_bt b_int fx.f_int (w_pCons (w_bin (op := .add) (w_var (L2.pv 2)) (w_bin (op := .mul) (w_int) (w_var (L2.pv 1)))) (w_pNil))) (w_int)) (w_bin (op := .mul) (w_int) (w_bt b_len fx.f_len (w_pCons (w_var (L2.pv 0)) (w_pNil))))) (w_int)) (w_gN sc.nd))
    (w_sSeq (w_asg (vs := [6]) (w_bin (op := .mod) (w_bin (op := .add) (w_bin (op := .mul) (w_var (L2.pv 6)) (w_var (L2.pv 6))) (w_bin (op := .mul) (w_int) (w_var (L2.pv 1)))) (w_int)) (w_gN sc.nd))
    (w_sSeq (w_sRet (w_bt b_int fx.f_int (w_pCons (w_bin (op := .mod) (w_bin (op := .add) (w_bin (op := .mul) (w_var (L2.pv 6)) (w_int)) (w_bin (op := .fdiv) (w_var (L2.pv 6)) (w_int))) (w_int)) (w_pNil))))
    (w_sNil)))))))
theorem ok__law_take (fx : Fx K mg ca) (C__law_number : CallOk P w K mg base (TT ca) 1 "_law_number" 2 F__law_number) (F : FunD K "_law_take" "_law_take" (defArgs (top 26)) (defBody (top 26)) (defScope (top 26)) [] [] f fd) : L2.FnOk P w K mg base L2.CX0 2 f fd ["draw", "many"] (spF K (TT ca) 2 F__law_take) := by
  have sc : L2.FnScope ["draw", "many"] ["draw", "many"] (defScope (top 26)) := ⟨rfl, rfl, rfl, by decide +kernel, rfl, by decide +kernel, by decide +kernel⟩
  exact ok_fn F sc rfl rfl fun Fr cdv A outer s H E hr => have hu := uo hr;
    w_sSeq (w_sAugCell (op := .add) (L2.pv 0) (w_int) (w_int))
    (w_sSeq (w_sRet (w_bin (op := .mod) (w_bt b_int fx.f_int (w_pCons (w_call C__law_number (hr.mono (by decide)) (w_aCons (w_ix (w_var (L2.pv 0)) (w_int)) (w_aCons (w_bt b_int fx.f_int (w_pCons (w_ix (w_var (L2.pv 0)) (w_int)) (w_pNil))) (w_aNil)))) (w_pNil))) (w_var (L2.pv 1))))
    (w_sNil))
theorem ok__law_pick (fx : Fx K mg ca) (C__law_take : CallOk P w K mg base (TT ca) 2 "_law_take" 2 F__law_take) (F : FunD K "_law_pick" "_law_pick" (defArgs (top 27)) (defBody (top 27)) (defScope (top 27)) [] [] f fd) : L2.FnOk P w K mg base L2.CX0 3 f fd ["draw", "items"] (spF K (TT ca) 2 F__law_pick) := by
  have sc : L2.FnScope ["draw", "items"] ["draw", "items"] (defScope (top 27)) := ⟨rfl, rfl, rfl, by decide +kernel, rfl, by decide +kernel, by decide +kernel⟩
  exact ok_fn F sc rfl rfl fun Fr cdv A outer s H E hr => have hu := uo hr;
    w_sSeq (w_sRet (w_ix (w_var (L2.pv 1)) (w_call C__law_take (hr.mono (by decide)) (w_aCons (w_var (L2.pv 0)) (w_aCons (w_bt b_len fx.f_len (w_pCons (w_var (L2.pv 1)) (w_pNil))) (w_aNil))))))
    (w_sNil)
theorem ok__law_rows (fx : Fx K mg ca) (C__law_pick : CallOk P w K mg base (TT ca) 3 "_law_pick" 2 F__law_pick) (C__law_take : CallOk P w K mg base (TT ca) 2 "_law_take" 2 F__law_take) (F : FunD K "_law_rows" "_law_rows" (defArgs (top 28)) (defBody (top 28)) (defScope (top 28)) [] [] f fd) : L2.FnOk P w K mg base L2.CX0 4 f fd ["draw", "base", "most"] (spF K (TT ca) 3 F__law_rows) := by
  have sc : L2.FnScope ["draw", "base", "most", "many", "found", "state", "row", "place", "part", "one"] ["draw", "base", "most"] (defScope (top 28)) := ⟨rfl, rfl, rfl, by decide +kernel, rfl, by decide +kernel, by decide +kernel⟩
  exact ok_fn F sc rfl rfl fun Fr cdv A outer s H E hr => have hu := uo hr;
    w_sSeq (w_par2 (w_rCons (w_bin (op := .add) (w_int) (w_call C__law_take (hr.mono (by decide)) (w_aCons (w_var (L2.pv 0)) (w_aCons (w_var (L2.pv 2)) (w_aNil))))) (w_rCons (w_lst (w_aNil)) (w_rNil))) sc.nd)
    (w_sSeq (w_sFor (vs := [5]) (w_iR1 fx.f_range (w_var (L2.pv 3))) (w_gN sc.nd)
    (w_sSeq (w_asgO (w_lst (w_aNil)) sc.nd)
    (w_sSeq (w_sFor (vs := [7]) (w_iR1 fx.f_range (w_bin (op := .mul) (w_var (L2.pv 1)) (w_var (L2.pv 1)))) (w_gN sc.nd)
    (w_sSeq (w_sAppend (L2.pv 6) (w_tup (w_aCons (w_call C__law_pick (hr.mono (by decide)) (w_aCons (w_var (L2.pv 0)) (w_aCons (w_comp [("part", 8)] sc.nd (w_iR1 fx.f_range (w_bin (op := .mul) (w_var (L2.pv 1)) (w_var (L2.pv 1)))) (L2.blkOk_by (by kernel_rfl)) (fun _ _ _ _ _ => w_gN sc.nd) (fun _ _ _ _ _ => w_ifs1 (w_tCmp (op := .notin) hu (w_var (L2.pv 8)) (w_comp [("one", 9)] sc.nd (w_iE (w_var (L2.pv 6))) (L2.blkOk_by (by kernel_rfl)) (fun _ _ _ _ _ => w_gN sc.nd) (fun _ _ _ _ _ => w_ifs0) (fun _ _ _ _ _ => w_ix (w_var (L2.pv 9)) (w_int))))) (fun _ _ _ _ _ => w_var (L2.pv 8))) (w_aNil)))) (w_aCons (w_call C__law_take (hr.mono (by decide)) (w_aCons (w_var (L2.pv 0)) (w_aCons (w_var (L2.pv 3)) (w_aNil)))) (w_aNil)))))
    (w_sNil)))
    (w_sSeq (w_sFrz (w_sAppend (L2.pv 4) (w_var (L2.pv 6))))
    (w_sNil)))))
    (w_sSeq (w_sRetV (L2.pv 4))
    (w_sNil)))
theorem ok__law_curve (fx : Fx K mg ca) (C__law_rows : CallOk P w K mg base (TT ca) 4 "_law_rows" 3 F__law_rows) (C__law_take : CallOk P w K mg base (TT ca) 2 "_law_take" 2 F__law_take) (F : FunD K "_law_curve" "_law_curve" (defArgs (top 29)) (defBody (top 29)) (defScope (top 29)) [] [] f fd) : L2.FnOk P w K mg base L2.CX0 5 f fd ["draw", "most"] (spF K (TT ca) 2 F__law_curve) := by
  have sc : L2.FnScope ["draw", "most", "way", "base"] ["draw", "most"] (defScope (top 29)) := ⟨rfl, rfl, rfl, by decide +kernel, rfl, by decide +kernel, by decide +kernel⟩
  exact ok_fn F sc rfl rfl fun Fr cdv A outer s H E hr => have hu := uo hr;
    w_sSeq (w_asg (vs := [2]) (w_call C__law_take (hr.mono (by decide)) (w_aCons (w_var (L2.pv 0)) (w_aCons (w_int) (w_aNil)))) (w_gN sc.nd))
    (w_sSeq (w_sIf (w_tCmp (op := .eq) hu (w_var (L2.pv 2)) (w_int))
    (w_sSeq (w_sRet (w_tup (w_aCons (w_int) (w_aCons (w_lst (w_aCons (w_lst (w_aCons (w_tup (w_aCons (w_int) (w_aCons (w_int) (w_aNil)))) (w_aCons (w_tup (w_aCons (w_int) (w_aCons (w_int) (w_aNil)))) (w_aCons (w_tup (w_aCons (w_int) (w_aCons (w_int) (w_aNil)))) (w_aCons (w_tup (w_aCons (w_int) (w_aCons (w_int) (w_aNil)))) (w_aNil)))))) (w_aCons (w_lst (w_aCons (w_tup (w_aCons (w_int) (w_aCons (w_int) (w_aNil)))) (w_aCons (w_tup (w_aCons (w_int) (w_aCons (w_int) (w_aNil)))) (w_aCons (w_tup (w_aCons (w_int) (w_aCons (w_int) (w_aNil)))) (w_aCons (w_tup (w_aCons (w_int) (w_aCons (w_int) (w_aNil)))) (w_aNil)))))) (w_aCons (w_lst (w_aCons (w_tup (w_aCons (w_int) (w_aCons (w_int) (w_aNil)))) (w_aCons (w_tup (w_aCons (w_int) (w_aCons (w_int) (w_aNil)))) (w_aCons (w_tup (w_aCons (w_int) (w_aCons (w_int) (w_aNil)))) (w_aCons (w_tup (w_aCons (w_int) (w_aCons (w_int) (w_aNil)))) (w_aNil)))))) (w_aCons (w_lst (w_aCons (w_tup (w_aCons (w_int) (w_aCons (w_int) (w_aNil)))) (w_aCons (w_tup (w_aCons (w_int) (w_aCons (w_int) (w_aNil)))) (w_aCons (w_tup (w_aCons (w_int) (w_aCons (w_int) (w_aNil)))) (w_aCons (w_tup (w_aCons (w_int) (w_aCons (w_int) (w_aNil)))) (w_aNil)))))) (w_aNil)))))) (w_aNil)))))
    (w_sNil))
    (w_sNil))
    (w_sSeq (w_sIf (w_tCmp (op := .eq) hu (w_var (L2.pv 2)) (w_int))
    (w_sSeq (w_sRet (w_tup (w_aCons (w_int) (w_aCons (w_lst (w_aCons (w_lst (w_aCons (w_tup (w_aCons (w_int) (w_aCons (w_int) (w_aNil)))) (w_aCons (w_tup (w_aCons (w_int) (w_aCons (w_int) (w_aNil)))) (w_aCons (w_tup (w_aCons (w_int) (w_aCons (w_int) (w_aNil)))) (w_aCons (w_tup (w_aCons (w_int) (w_aCons (w_int) (w_aNil)))) (w_aNil)))))) (w_aCons (w_lst (w_aCons (w_tup (w_aCons (w_int) (w_aCons (w_int) (w_aNil)))) (w_aCons (w_tup (w_aCons (w_int) (w_aCons (w_int) (w_aNil)))) (w_aCons (w_tup (w_aCons (w_int) (w_aCons (w_int) (w_aNil)))) (w_aCons (w_tup (w_aCons (w_int) (w_aCons (w_int) (w_aNil)))) (w_aNil)))))) (w_aNil)))) (w_aNil)))))
    (w_sNil))
    (w_sNil))
    (w_sSeq (w_asg (vs := [3]) (w_if (w_tCmp (op := .eq) hu (w_var (L2.pv 2)) (w_int)) (w_int) (w_int)) (w_gN sc.nd))
    (w_sSeq (w_sRet (w_tup (w_aCons (w_var (L2.pv 3)) (w_aCons (w_call C__law_rows (hr.mono (by decide)) (w_aCons (w_var (L2.pv 0)) (w_aCons (w_var (L2.pv 3)) (w_aCons (w_var (L2.pv 1)) (w_aNil))))) (w_aNil)))))
    (w_sNil)))))
theorem ok__law_numbered (fx : Fx K mg ca)  (F : FunD K "_law_numbered" "_law_numbered" (defArgs (top 30)) (defBody (top 30)) (defScope (top 30)) [] [] f fd) : L2.FnOk P w K mg base L2.CX0 1 f fd ["told", "level"] (spF K (TT ca) 2 F__law_numbered) := by
  have sc : L2.FnScope ["told", "level", "base", "rows", "found", "turn", "late", "x", "y", "state", "places", "place", "part", "goal"] ["told", "level"] (defScope (top 30)) := ⟨rfl, rfl, rfl, by decide +kernel, rfl, by decide +kernel, by decide +kernel⟩
  exact ok_fn F sc rfl rfl fun Fr cdv A outer s H E hr => have hu := uo hr;
    w_sSeq (w_asg (vs := [2, 3]) (w_var (L2.pv 0)) (w_gT (w_gCons (w_gN sc.nd) (w_gCons (w_gN sc.nd) (w_gNil)))))
    (w_sSeq (w_asg (vs := [4]) (w_lst (w_aCons (w_tup (w_aCons (w_int) (w_aCons (w_int) (w_aCons (w_int) (w_aCons (w_tup (w_aNil)) (w_aNil)))))) (w_aNil))) (w_gN sc.nd))
    (w_sSeq (w_sFor (vs := [5]) (w_iR1 fx.f_range (w_var (L2.pv 1))) (w_gN sc.nd)
    (w_sSeq (w_asg (vs := [6]) (w_lst (w_aNil)) (w_gN sc.nd))
    (w_sSeq (w_sFor (vs := [7, 8, 9, 10]) (w_iK (w_var (L2.pv 4))) (w_gT (w_gCons (w_gN sc.nd) (w_gCons (w_gN sc.nd) (w_gCons (w_gN sc.nd) (w_gCons (w_gN sc.nd) (w_gNil))))))
    (w_sSeq (w_asg (vs := [6]) (w_bin (op := .add) (w_var (L2.pv 6)) (w_comp [("place", 11), ("part", 12), ("goal", 13)] sc.nd (w_iEnum fx.f_enumerate (w_ix (w_var (L2.pv 3)) (w_var (L2.pv 9)))) (L2.blkOk_by (by kernel_rfl)) (fun _ _ _ _ _ => w_gT (w_gCons (w_gN sc.nd) (w_gCons (w_gT (w_gCons (w_gN sc.nd) (w_gCons (w_gN sc.nd) (w_gNil)))) (w_gNil)))) (fun _ _ _ _ _ => w_ifs0) (fun _ _ _ _ _ => w_tup (w_aCons (w_bin (op := .add) (w_bin (op := .mul) (w_var (L2.pv 7)) (w_var (L2.pv 2))) (w_bin (op := .mod) (w_var (L2.pv 12)) (w_var (L2.pv 2)))) (w_aCons (w_bin (op := .add) (w_bin (op := .mul) (w_var (L2.pv 8)) (w_var (L2.pv 2))) (w_bin (op := .fdiv) (w_var (L2.pv 12)) (w_var (L2.pv 2)))) (w_aCons (w_var (L2.pv 13)) (w_aCons (w_bin (op := .add) (w_var (L2.pv 10)) (w_tup (w_aCons (w_var (L2.pv 11)) (w_aNil)))) (w_aNil)))))))) (w_gN sc.nd))
    (w_sNil)))
    (w_sSeq (w_asg (vs := [4]) (w_var (L2.pv 6)) (w_gN sc.nd))
    (w_sNil)))))
    (w_sSeq (w_sRet (w_var (L2.pv 4)))
    (w_sNil))))
theorem ok__law_built (fx : Fx K mg ca) (M_Curve : MkOk P w K mg base (TT ca) 3 "Curve" c_Curve 3 F_Curve___init__) (F : FunD K "_law_built" "_law_built" (defArgs (top 31)) (defBody (top 31)) (defScope (top 31)) [] [] f fd) : L2.FnOk P w K mg base L2.CX0 5 f fd ["told"] (spF K (TT ca) 1 F__law_built) := by
  have sc : L2.FnScope ["told"] ["told"] (defScope (top 31)) := ⟨rfl, rfl, rfl, by decide +kernel, rfl, by decide +kernel, by decide +kernel⟩
  exact ok_fn F sc rfl rfl fun Fr cdv A outer s H E hr => have hu := uo hr;
    w_sSeq (w_sRet (w_mk M_Curve (hr.mono (by decide)) (w_aCons (w_ix (w_var (L2.pv 0)) (w_int)) (w_aCons (w_ix (w_var (L2.pv 0)) (w_int)) (w_aNil)))))
    (w_sNil)
theorem ok_law (fx : Fx K mg ca) (C__law_built : CallOk P w K mg base (TT ca) 5 "_law_built" 1 F__law_built) (C__law_curve : CallOk P w K mg base (TT ca) 5 "_law_curve" 2 F__law_curve) (C__law_numbered : CallOk P w K mg base (TT ca) 1 "_law_numbered" 2 F__law_numbered) (C__law_take : CallOk P w K mg base (TT ca) 2 "_law_take" 2 F__law_take) (C_cell_of : CallOk P w K mg base (TT ca) 6 "cell_of" 3 F_cell_of) (C_digits_of : CallOk P w K mg base (TT ca) 6 "digits_of" 4 F_digits_of) (C_number_of : CallOk P w K mg base (TT ca) 7 "number_of" 4 F_number_of) (C_places_of : CallOk P w K mg base (TT ca) 5 "places_of" 3 F_places_of) (C_side : CallOk P w K mg base (TT ca) 4 "side" 2 F_side) (C_state_of : CallOk P w K mg base (TT ca) 6 "state_of" 3 F_state_of) (F : FunD K "law" "law" (defArgs (top 32)) (defBody (top 32)) (defScope (top 32)) [] [] f fd) : L2.FnOk P w K mg base L2.CX0 8 f fd ["script"] (spF K (TT ca) 1 F_law) := by
  have sc : L2.FnScope ["script", "draw", "turn", "told", "base", "rows", "curve", "level", "places", "state", "x", "y", "number", "states", "again", "place", "part", "goal", "up", "whole", "far", "last", "near", "small", "every", "at", "one"] ["script"] (defScope (top 32)) := ⟨rfl, rfl, rfl, by decide +kernel, rfl, by decide +kernel, by decide +kernel⟩
  exact ok_fn F sc rfl rfl fun Fr cdv A outer s H E hr => have hu := uo hr;
    w_sSeq (w_asg (vs := [1]) (w_cell (w_aCons (w_var (L2.pv 0)) (w_aCons (w_int) (w_aNil)))) (w_gN sc.nd))
    (w_sSeq (w_sFor (vs := [2]) (w_iR1 fx.f_range (w_int)) (w_gN sc.nd)
    (w_sSeq (w_asg (vs := [3]) (w_call C__law_curve (hr.mono (by decide)) (w_aCons (w_var (L2.pv 1)) (w_aCons (w_int) (w_aNil)))) (w_gN sc.nd))
    (w_sSeq (w_asg (vs := [4, 5]) (w_var (L2.pv 3)) (w_gT (w_gCons (w_gN sc.nd) (w_gCons (w_gN sc.nd) (w_gNil)))))
    (w_sSeq (w_parT (w_rCons (w_call C__law_built (hr.mono (by decide)) (w_aCons (w_var (L2.pv 3)) (w_aNil))) (w_rCons (w_bin (op := .add) (w_int) (w_call C__law_take (hr.mono (by decide)) (w_aCons (w_var (L2.pv 1)) (w_aCons (w_int) (w_aNil))))) (w_rNil))) (w_nms sc.nd (w_nms sc.nd (w_nms0))))
    (w_sSeq (w_parT (w_rCons (w_lst (w_aNil)) (w_rCons (w_int) (w_rCons (w_int) (w_rCons (w_int) (w_rCons (w_int) (w_rCons (w_lst (w_aCons (w_int) (w_aNil))) (w_rNil))))))) (w_nms sc.nd (w_nms sc.nd (w_nms sc.nd (w_nms sc.nd (w_nms sc.nd (w_nms sc.nd (w_nms0))))))))
    (w_sSeq (w_sFor (vs := [14]) (w_iR1 fx.f_range (w_var (L2.pv 7))) (w_gN sc.nd)
    (w_sSeq (w_asg (vs := [15]) (w_call C__law_take (hr.mono (by decide)) (w_aCons (w_var (L2.pv 1)) (w_aCons (w_bin (op := .mul) (w_var (L2.pv 4)) (w_var (L2.pv 4))) (w_aNil)))) (w_gN sc.nd))
    (w_sSeq (w_asg (vs := [16, 17]) (w_ix (w_ix (w_var (L2.pv 5)) (w_var (L2.pv 9))) (w_var (L2.pv 15))) (w_gT (w_gCons (w_gN sc.nd) (w_gCons (w_gN sc.nd) (w_gNil)))))
    (w_sSeq (w_parT (w_rCons (w_bin (op := .add) (w_var (L2.pv 8)) (w_lst (w_aCons (w_var (L2.pv 15)) (w_aNil)))) (w_rCons (w_var (L2.pv 17)) (w_rCons (w_bin (op := .add) (w_bin (op := .mul) (w_var (L2.pv 10)) (w_var (L2.pv 4))) (w_bin (op := .mod) (w_var (L2.pv 16)) (w_var (L2.pv 4)))) (w_rCons (w_bin (op := .add) (w_bin (op := .mul) (w_var (L2.pv 11)) (w_var (L2.pv 4))) (w_bin (op := .fdiv) (w_var (L2.pv 16)) (w_var (L2.pv 4)))) (w_rCons (w_bin (op := .add) (w_bin (op := .mul) (w_bin (op := .mul) (w_var (L2.pv 12)) (w_var (L2.pv 4))) (w_var (L2.pv 4))) (w_var (L2.pv 15))) (w_rNil)))))) (w_nms sc.nd (w_nms sc.nd (w_nms sc.nd (w_nms sc.nd (w_nms sc.nd (w_nms0)))))))
    (w_sSeq (w_sAppend (L2.pv 13) (w_var (L2.pv 9)))
    (w_sNil))))))
    (w_sSeq (w_sIf (w_tW (w_tOr (w_tCmp (op := .ne) hu (w_call C_number_of (hr.mono (by decide)) (w_aCons (w_var (L2.pv 6)) (w_aCons (w_var (L2.pv 7)) (w_aCons (w_var (L2.pv 10)) (w_aCons (w_var (L2.pv 11)) (w_aNil)))))) (w_var (L2.pv 12))) (w_tOr (w_tCmp (op := .ne) hu (w_bt b_tuple fx.f_tuple (w_pCons (w_call C_cell_of (hr.mono (by decide)) (w_aCons (w_var (L2.pv 6)) (w_aCons (w_var (L2.pv 7)) (w_aCons (w_var (L2.pv 12)) (w_aNil))))) (w_pNil))) (w_tup (w_aCons (w_var (L2.pv 10)) (w_aCons (w_var (L2.pv 11)) (w_aNil))))) (w_tOr (w_tCmp (op := .ne) hu (w_call C_state_of (hr.mono (by decide)) (w_aCons (w_var (L2.pv 6)) (w_aCons (w_var (L2.pv 7)) (w_aCons (w_var (L2.pv 12)) (w_aNil))))) (w_var (L2.pv 9))) (w_tOr (w_tCmp (op := .ne) hu (w_bt b_list fx.f_list (w_pCons (w_call C_places_of (hr.mono (by decide)) (w_aCons (w_var (L2.pv 6)) (w_aCons (w_var (L2.pv 7)) (w_aCons (w_var (L2.pv 12)) (w_aNil))))) (w_pNil))) (w_var (L2.pv 8))) (w_tOr1 (w_tCmp (op := .ne) hu (w_bt b_list fx.f_list (w_pCons (w_call C_digits_of (hr.mono (by decide)) (w_aCons (w_var (L2.pv 6)) (w_aCons (w_var (L2.pv 7)) (w_aCons (w_var (L2.pv 10)) (w_aCons (w_var (L2.pv 11)) (w_aNil)))))) (w_pNil))) (w_var (L2.pv 8)))))))))
    (w_sSeq (w_sRet (w_bl))
    (w_sNil))
    (w_sNil))
    (w_sSeq (w_sFor (vs := [18]) (w_iK (w_tup (w_aCons (w_int) (w_aCons (w_bin (op := .fdiv) (w_var (L2.pv 7)) (w_int)) (w_aCons (w_var (L2.pv 7)) (w_aNil)))))) (w_gN sc.nd)
    (w_sSeq (w_parT (w_rCons (w_int) (w_rCons (w_int) (w_rNil))) (w_nms sc.nd (w_nms sc.nd (w_nms0))))
    (w_sSeq (w_sFor (vs := [14]) (w_iR1 fx.f_range (w_var (L2.pv 18))) (w_gN sc.nd)
    (w_sSeq (w_par2 (w_rCons (w_bin (op := .mul) (w_bin (op := .mul) (w_var (L2.pv 19)) (w_var (L2.pv 4))) (w_var (L2.pv 4))) (w_rCons (w_bin (op := .mul) (w_var (L2.pv 20)) (w_var (L2.pv 4))) (w_rNil))) sc.nd)
    (w_sNil)))
    (w_sSeq (w_sIf (w_tW (w_tOr (w_tCmp (op := .ne) hu (w_call C_number_of (hr.mono (by decide)) (w_aCons (w_var (L2.pv 6)) (w_aCons (w_bin (op := .sub) (w_var (L2.pv 7)) (w_var (L2.pv 18))) (w_aCons (w_bin (op := .fdiv) (w_var (L2.pv 10)) (w_var (L2.pv 20))) (w_aCons (w_bin (op := .fdiv) (w_var (L2.pv 11)) (w_var (L2.pv 20))) (w_aNil)))))) (w_bin (op := .fdiv) (w_var (L2.pv 12)) (w_var (L2.pv 19)))) (w_tOr (w_tCmp (op := .ne) hu (w_bt b_tuple fx.f_tuple (w_pCons (w_call C_cell_of (hr.mono (by decide)) (w_aCons (w_var (L2.pv 6)) (w_aCons (w_bin (op := .sub) (w_var (L2.pv 7)) (w_var (L2.pv 18))) (w_aCons (w_bin (op := .fdiv) (w_var (L2.pv 12)) (w_var (L2.pv 19))) (w_aNil))))) (w_pNil))) (w_tup (w_aCons (w_bin (op := .fdiv) (w_var (L2.pv 10)) (w_var (L2.pv 20))) (w_aCons (w_bin (op := .fdiv) (w_var (L2.pv 11)) (w_var (L2.pv 20))) (w_aNil))))) (w_tOr (w_tCmp (op := .ne) hu (w_call C_state_of (hr.mono (by decide)) (w_aCons (w_var (L2.pv 6)) (w_aCons (w_bin (op := .sub) (w_var (L2.pv 7)) (w_var (L2.pv 18))) (w_aCons (w_bin (op := .fdiv) (w_var (L2.pv 12)) (w_var (L2.pv 19))) (w_aNil))))) (w_ix (w_var (L2.pv 13)) (w_bin (op := .sub) (w_var (L2.pv 7)) (w_var (L2.pv 18))))) (w_tOr1 (w_tCmp (op := .ne) hu (w_call C_side (hr.mono (by decide)) (w_aCons (w_var (L2.pv 6)) (w_aCons (w_var (L2.pv 7)) (w_aNil)))) (w_bin (op := .mul) (w_var (L2.pv 20)) (w_call C_side (hr.mono (by decide)) (w_aCons (w_var (L2.pv 6)) (w_aCons (w_bin (op := .sub) (w_var (L2.pv 7)) (w_var (L2.pv 18))) (w_aNil)))))))))))
    (w_sSeq (w_sRet (w_bl))
    (w_sNil))
    (w_sNil))
    (w_sSeq (w_sIf (w_tCmp (op := .ne) hu (w_bt b_list fx.f_list (w_pCons (w_call C_places_of (hr.mono (by decide)) (w_aCons (w_var (L2.pv 6)) (w_aCons (w_bin (op := .sub) (w_var (L2.pv 7)) (w_var (L2.pv 18))) (w_aCons (w_bin (op := .fdiv) (w_var (L2.pv 12)) (w_var (L2.pv 19))) (w_aNil))))) (w_pNil))) (w_sl (w_var (L2.pv 8)) (w_oNo) (w_oE (w_bin (op := .sub) (w_var (L2.pv 7)) (w_var (L2.pv 18))))))
    (w_sSeq (w_sRet (w_bl))
    (w_sNil))
    (w_sNil))
    (w_sNil))))))
    (w_sSeq (w_asg (vs := [21]) (w_bin (op := .sub) (w_var (L2.pv 12)) (w_bin (op := .mod) (w_var (L2.pv 12)) (w_bin (op := .mul) (w_var (L2.pv 4)) (w_var (L2.pv 4))))) (w_gN sc.nd))
    (w_sSeq (w_asg (vs := [22]) (w_bt b_sorted fx.f_sorted (w_pCons (w_comp [("place", 15)] sc.nd (w_iR1 fx.f_range (w_bin (op := .mul) (w_var (L2.pv 4)) (w_var (L2.pv 4)))) (L2.blkOk_by (by kernel_rfl)) (fun _ _ _ _ _ => w_gN sc.nd) (fun _ _ _ _ _ => w_ifs0) (fun _ _ _ _ _ => w_bt b_tuple fx.f_tuple (w_pCons (w_call C_cell_of (hr.mono (by decide)) (w_aCons (w_var (L2.pv 6)) (w_aCons (w_var (L2.pv 7)) (w_aCons (w_bin (op := .add) (w_var (L2.pv 21)) (w_var (L2.pv 15))) (w_aNil))))) (w_pNil)))) (w_pNil))) (w_gN sc.nd))
    (w_sSeq (w_sIf (w_tW (w_tOr (w_tCmp (op := .ne) hu (w_var (L2.pv 22)) (w_bt b_sorted fx.f_sorted (w_pCons (w_comp [("part", 16)] sc.nd (w_iR1 fx.f_range (w_bin (op := .mul) (w_var (L2.pv 4)) (w_var (L2.pv 4)))) (L2.blkOk_by (by kernel_rfl)) (fun _ _ _ _ _ => w_gN sc.nd) (fun _ _ _ _ _ => w_ifs0) (fun _ _ _ _ _ => w_tup (w_aCons (w_bin (op := .add) (w_bin (op := .sub) (w_var (L2.pv 10)) (w_bin (op := .mod) (w_var (L2.pv 10)) (w_var (L2.pv 4)))) (w_bin (op := .mod) (w_var (L2.pv 16)) (w_var (L2.pv 4)))) (w_aCons (w_bin (op := .add) (w_bin (op := .sub) (w_var (L2.pv 11)) (w_bin (op := .mod) (w_var (L2.pv 11)) (w_var (L2.pv 4)))) (w_bin (op := .fdiv) (w_var (L2.pv 16)) (w_var (L2.pv 4)))) (w_aNil))))) (w_pNil)))) (w_tOr (w_tCmp (op := .ne) hu (w_call C_number_of (hr.mono (by decide)) (w_aCons (w_var (L2.pv 6)) (w_aCons (w_int) (w_aCons (w_int) (w_aCons (w_int) (w_aNil)))))) (w_int)) (w_tOr1 (w_tCmp (op := .ne) hu (w_bt b_tuple fx.f_tuple (w_pCons (w_call C_cell_of (hr.mono (by decide)) (w_aCons (w_var (L2.pv 6)) (w_aCons (w_int) (w_aCons (w_int) (w_aNil))))) (w_pNil))) (w_tup (w_aCons (w_int) (w_aCons (w_int) (w_aNil)))))))))
    (w_sSeq (w_sRet (w_bl))
    (w_sNil))
    (w_sNil))
    (w_sSeq (w_asg (vs := [23]) (w_call C__law_take (hr.mono (by decide)) (w_aCons (w_var (L2.pv 1)) (w_aCons (w_int) (w_aNil)))) (w_gN sc.nd))
    (w_sSeq (w_asg (vs := [24]) (w_call C__law_numbered (hr.mono (by decide)) (w_aCons (w_var (L2.pv 3)) (w_aCons (w_var (L2.pv 23)) (w_aNil)))) (w_gN sc.nd))
    (w_sSeq (w_sIf (w_tT (w_bt b_any fx.f_any (w_pCons (w_comp [("at", 25), ("one", 26)] sc.nd (w_iEnum fx.f_enumerate (w_var (L2.pv 24))) (L2.blkOk_by (by kernel_rfl)) (fun _ _ _ _ _ => w_gT (w_gCons (w_gN sc.nd) (w_gCons (w_gN sc.nd) (w_gNil)))) (fun _ _ _ _ _ => w_ifs0) (fun _ _ _ _ _ => w_or (w_cmp (op := .ne) hu (w_bt b_tuple fx.f_tuple (w_pCons (w_call C_cell_of (hr.mono (by decide)) (w_aCons (w_var (L2.pv 6)) (w_aCons (w_var (L2.pv 23)) (w_aCons (w_var (L2.pv 25)) (w_aNil))))) (w_pNil))) (w_tup (w_aCons (w_ix (w_var (L2.pv 26)) (w_int)) (w_aCons (w_ix (w_var (L2.pv 26)) (w_int)) (w_aNil))))) (w_or (w_cmp (op := .ne) hu (w_call C_state_of (hr.mono (by decide)) (w_aCons (w_var (L2.pv 6)) (w_aCons (w_var (L2.pv 23)) (w_aCons (w_var (L2.pv 25)) (w_aNil))))) (w_ix (w_var (L2.pv 26)) (w_int))) (w_one1 (w_cmp (op := .ne) hu (w_bt b_tuple fx.f_tuple (w_pCons (w_call C_places_of (hr.mono (by decide)) (w_aCons (w_var (L2.pv 6)) (w_aCons (w_var (L2.pv 23)) (w_aCons (w_var (L2.pv 25)) (w_aNil))))) (w_pNil))) (w_ix (w_var (L2.pv 26)) (w_int))))))) (w_pNil))))
    (w_sSeq (w_sRet (w_bl))
    (w_sNil))
    (w_sNil))
    (w_sNil)))))))))))))))
    (w_sSeq (w_sRet (w_bl))
    (w_sNil)))
end
end CC.K26
end

section
namespace CC.K26
open CC PySem PySem.Spec PyProof.Rows
open L2 (FunD defArgs defBody defScope inClass)
/-! ### the head -/
def mkD (a : Str × Option Str) (n q : Str) (s : Stmt) : He.DefD := ⟨a, n, q, defArgs s, defBody s, defScope s, [], []⟩
def fn : List He.DefD := [mkD ("is_integer", none) "is_integer" "is_integer" (top 5),
  mkD ("is_row", none) "is_row" "is_row" (top 6),
  mkD ("is_number", none) "is_number" "is_number" (top 7),
  mkD ("Curve", some "__init__") "__init__" "Curve.__init__" (inClass (top 11) 0),
  mkD ("Curve", some "__eq__") "__eq__" "Curve.__eq__" (inClass (top 11) 1),
  mkD ("Curve", some "parts") "parts" "Curve.parts" (inClass (top 11) 2),
  mkD ("Curve", some "place") "place" "Curve.place" (inClass (top 11) 3),
  mkD ("check_curve", none) "check_curve" "check_curve" (top 12),
  mkD ("check_level", none) "check_level" "check_level" (top 13),
  mkD ("power", none) "power" "power" (top 15),
  mkD ("side", none) "side" "side" (top 14),
  mkD ("check_cell", none) "check_cell" "check_cell" (top 16),
  mkD ("check_number", none) "check_number" "check_number" (top 17),
  mkD ("digits_of", none) "digits_of" "digits_of" (top 18),
  mkD ("number_of", none) "number_of" "number_of" (top 19),
  mkD ("places_of", none) "places_of" "places_of" (top 20),
  mkD ("cell_at", none) "cell_at" "cell_at" (top 22),
  mkD ("cell_of", none) "cell_of" "cell_of" (top 21),
  mkD ("state_of", none) "state_of" "state_of" (top 23),
  mkD ("_law_number", none) "_law_number" "_law_number" (top 25),
  mkD ("_law_take", none) "_law_take" "_law_take" (top 26),
  mkD ("_law_pick", none) "_law_pick" "_law_pick" (top 27),
  mkD ("_law_rows", none) "_law_rows" "_law_rows" (top 28),
  mkD ("_law_curve", none) "_law_curve" "_law_curve" (top 29),
  mkD ("_law_numbered", none) "_law_numbered" "_law_numbered" (top 30),
  mkD ("_law_built", none) "_law_built" "_law_built" (top 31),
  mkD ("law", none) "law" "law" (top 32)]
def clss : List Str := ["Curve"]
def exB (K : PySem.W.Frag) : Bool := clss.all (exC K)
abbrev caOf (K : PySem.W.Frag) (c : Nat) : Addr := match c with
  | 0 => He.ga K "Curve"
  | _ => 0
def fa : List He.Fa := [.cls "Curve", .noat "Curve" "rows", .noat "Curve" "base", .free "all", .free "any", .free "bool", .free "enumerate", .free "int", .free "isinstance", .free "len", .free "list", .free "range", .free "set", .free "sorted", .free "tuple", .int "MOST_STATES" 16, .int "MOST_LEVEL" 300, .glo "Curve", .glo "is_integer", .glo "is_row", .glo "is_number", .mkr "Curve", .meth "Curve" "parts", .meth "Curve" "place", .glo "check_curve", .glo "check_level", .glo "power", .glo "side", .glo "check_cell", .glo "check_number", .glo "digits_of", .glo "number_of", .glo "places_of", .glo "cell_at", .glo "cell_of", .glo "state_of", .glo "_law_number", .glo "_law_take", .glo "_law_pick", .glo "_law_rows", .glo "_law_curve", .glo "_law_numbered", .glo "_law_built", .glo "law"]
abbrev R : PySem.W.OpenRow := PySem.W.OpenLaw.row PySem.Challenge.rw_cellcurves_k26_levels_below_levels
abbrev hk : PySem.W.Hook := He.hookX 4 fa fn [] [] exB
def ob (s : PySem.W.SharedT) : He.AlX := He.obsX 4 fa fn [] [] exB (HandSHeadRun.getT s)
theorem ob_eq (s : PySem.W.SharedT) : ob s = hk.obs s.abs := He.obsX_eq (HandSHeadRun.getT_eq s)
def loose : List Str := ["__name__", "CurveError", "BadCurve", "BadCell", "is_integer", "is_row", "is_number", "MOST_STATES", "MOST_LEVEL", "Curve", "check_curve", "check_level", "side", "power", "check_cell", "check_number", "digits_of", "number_of", "places_of", "cell_of", "cell_at", "state_of", "_law_number", "_law_take", "_law_pick", "_law_rows", "_law_curve", "_law_numbered", "_law_built"]
theorem run (w : World) : HandSHeadRun.RunEq R (PySem.W.view R.prog [32]) hk ob 4000 loose w := by
  intro os
  kernel_rfl
theorem facts {P : Program} {w : World} {K : PySem.W.Frag} {h : Heap} {mg : Str → Option Value} {f : Addr} (X : K.In h) (G : h.Ns mainGlobals mg) (hfa : mg "law" = some (.ref f)) (c : He.SaysX fa fn [] [] exB w h K) :
    ∃ fd : FuncData, (∀ (s : Shared) (v : Value), BindsTo s fd ⟨[v], []⟩ [("script", v)]) ∧ ∀ base : Heap, K.In base → base.Ns mainGlobals mg → L2.FnOk P w K mg base L2.CX0 8 f fd ["script"] (spF K (TT (caOf K)) 1 F_law) := by
  have e := hfa.symm.trans (He.glo_ok X G (c.t.d.fact 43 (f := .glo "law") rfl))
  cases e
  have fx : Fx K mg (caOf K) := {
    tab := {
      nd := fun cc => match cc with
        | 0 => show (["base", "rows"] : List Str).Nodup by decide +kernel
        | _ + 1 => List.nodup_nil
      cl := fun cc f hf => match cc, hf with
        | 0, _ => He.cls_ok (c.t.d.fact 0 (f := .cls "Curve") rfl)
        | _ + 1, hf => absurd (show f ∈ ([] : List Nat) from hf) (by simp)
      na := fun cc f hf => match cc, hf with
        | 0, hf => (show f ∈ [n_base, n_rows] → L2.NoAttr K (He.ga K "Curve") (nms f) from (fun h => (List.mem_cons.mp h).elim (fun e => e ▸ He.noat_ok (c.t.d.fact 2 (f := .noat "Curve" "base") rfl)) (fun h => (List.mem_cons.mp h).elim (fun e => e ▸ He.noat_ok (c.t.d.fact 1 (f := .noat "Curve" "rows") rfl)) (fun h => absurd h (by simp))))) hf
        | _ + 1, hf => absurd (show f ∈ ([] : List Nat) from hf) (by simp) }
    f_all := (He.free_ok X G (c.t.d.fact 3 (f := .free "all") rfl))
    f_any := (He.free_ok X G (c.t.d.fact 4 (f := .free "any") rfl))
    f_bool := (He.free_ok X G (c.t.d.fact 5 (f := .free "bool") rfl))
    f_enumerate := (He.free_ok X G (c.t.d.fact 6 (f := .free "enumerate") rfl))
    f_int := (He.free_ok X G (c.t.d.fact 7 (f := .free "int") rfl))
    f_isinstance := (He.free_ok X G (c.t.d.fact 8 (f := .free "isinstance") rfl))
    f_len := (He.free_ok X G (c.t.d.fact 9 (f := .free "len") rfl))
    f_list := (He.free_ok X G (c.t.d.fact 10 (f := .free "list") rfl))
    f_range := (He.free_ok X G (c.t.d.fact 11 (f := .free "range") rfl))
    f_set := (He.free_ok X G (c.t.d.fact 12 (f := .free "set") rfl))
    f_sorted := (He.free_ok X G (c.t.d.fact 13 (f := .free "sorted") rfl))
    f_tuple := (He.free_ok X G (c.t.d.fact 14 (f := .free "tuple") rfl))
    g_MOST_STATES := He.int_ok X G (c.t.d.fact 15 (f := .int "MOST_STATES" 16) rfl)
    g_MOST_LEVEL := He.int_ok X G (c.t.d.fact 16 (f := .int "MOST_LEVEL" 300) rfl)
    k_Curve := (He.glo_ok X G (c.t.d.fact 17 (f := .glo "Curve") rfl))
    i_Curve := insC (He.cls_ok (c.t.d.fact 0 (f := .cls "Curve") rfl)) (List.all_eq_true.mp c.more "Curve" (by simp [clss])) }
  obtain ⟨fd0, D0⟩ := c.t.d.def_ 0 (d := mkD ("is_integer", none) "is_integer" "is_integer" (top 5)) rfl
  have C_is_integer := fun (base : Heap) => call_of D0 (ok_is_integer (P := P) (w := w) (base := base) fx  D0) (He.glo_ok X G (c.t.d.fact 18 (f := .glo "is_integer") rfl)) (fun _ _ _ _ _ _ us hl => match us, hl with | [_], _ => rfl)
  obtain ⟨fd1, D1⟩ := c.t.d.def_ 1 (d := mkD ("is_row", none) "is_row" "is_row" (top 6)) rfl
  have C_is_row := fun (base : Heap) => call_of D1 (ok_is_row (P := P) (w := w) (base := base) fx  D1) (He.glo_ok X G (c.t.d.fact 19 (f := .glo "is_row") rfl)) (fun _ _ _ _ _ _ us hl => match us, hl with | [_], _ => rfl)
  obtain ⟨fd2, D2⟩ := c.t.d.def_ 2 (d := mkD ("is_number", none) "is_number" "is_number" (top 7)) rfl
  have C_is_number := fun (base : Heap) => call_of D2 (ok_is_number (P := P) (w := w) (base := base) fx (C_is_integer base) D2) (He.glo_ok X G (c.t.d.fact 20 (f := .glo "is_number") rfl)) (fun _ _ _ _ _ _ us hl => match us, hl with | [_, _, _], _ => rfl)
  obtain ⟨fd3, D3⟩ := c.t.d.def_ 3 (d := mkD ("Curve", some "__init__") "__init__" "Curve.__init__" (inClass (top 11) 0)) rfl
  have M_Curve := fun (base : Heap) => mk_of (c := c_Curve) D3 (ok_Curve___init__ (P := P) (w := w) (base := base) fx (C_is_number base) (C_is_row base) D3) (He.mkr_ok (c.t.d.fact 21 (f := .mkr "Curve") rfl)) (He.glo_ok X G (c.t.d.fact 17 (f := .glo "Curve") rfl)) (fun _ _ _ _ _ _ us hl => match us, hl with | [_, _, _], _ => rfl)
  obtain ⟨fd4, D4⟩ := c.t.d.def_ 4 (d := mkD ("Curve", some "__eq__") "__eq__" "Curve.__eq__" (inClass (top 11) 1)) rfl
  obtain ⟨fd5, D5⟩ := c.t.d.def_ 5 (d := mkD ("Curve", some "parts") "parts" "Curve.parts" (inClass (top 11) 2)) rfl
  have C_Curve_parts := fun (base : Heap) => meth_of (c := c_Curve) D5 (ok_Curve_parts (P := P) (w := w) (base := base) fx  D5) (He.meth_ok (c.t.d.fact 22 (f := .meth "Curve" "parts") rfl)) (He.cls_ok (c.t.d.fact 0 (f := .cls "Curve") rfl)) (show ("parts" : Str) ∉ (["base", "rows"] : List Str) by decide +kernel) (fun _ _ _ _ _ _ us hl => match us, hl with | [_], _ => rfl)
  obtain ⟨fd6, D6⟩ := c.t.d.def_ 6 (d := mkD ("Curve", some "place") "place" "Curve.place" (inClass (top 11) 3)) rfl
  have C_Curve_place := fun (base : Heap) => meth_of (c := c_Curve) D6 (ok_Curve_place (P := P) (w := w) (base := base) fx  D6) (He.meth_ok (c.t.d.fact 23 (f := .meth "Curve" "place") rfl)) (He.cls_ok (c.t.d.fact 0 (f := .cls "Curve") rfl)) (show ("place" : Str) ∉ (["base", "rows"] : List Str) by decide +kernel) (fun _ _ _ _ _ _ us hl => match us, hl with | [_, _, _], _ => rfl)
  obtain ⟨fd7, D7⟩ := c.t.d.def_ 7 (d := mkD ("check_curve", none) "check_curve" "check_curve" (top 12)) rfl
  have C_check_curve := fun (base : Heap) => call_of D7 (ok_check_curve (P := P) (w := w) (base := base) fx  D7) (He.glo_ok X G (c.t.d.fact 24 (f := .glo "check_curve") rfl)) (fun _ _ _ _ _ _ us hl => match us, hl with | [_], _ => rfl)
  obtain ⟨fd8, D8⟩ := c.t.d.def_ 8 (d := mkD ("check_level", none) "check_level" "check_level" (top 13)) rfl
  have C_check_level := fun (base : Heap) => call_of D8 (ok_check_level (P := P) (w := w) (base := base) fx (C_check_curve base) (C_is_number base) D8) (He.glo_ok X G (c.t.d.fact 25 (f := .glo "check_level") rfl)) (fun _ _ _ _ _ _ us hl => match us, hl with | [_, _], _ => rfl)
  obtain ⟨fd9, D9⟩ := c.t.d.def_ 9 (d := mkD ("power", none) "power" "power" (top 15)) rfl
  have C_power := fun (base : Heap) => call_of D9 (ok_power (P := P) (w := w) (base := base) fx  D9) (He.glo_ok X G (c.t.d.fact 26 (f := .glo "power") rfl)) (fun _ _ _ _ _ _ us hl => match us, hl with | [_, _], _ => rfl)
  obtain ⟨fd10, D10⟩ := c.t.d.def_ 10 (d := mkD ("side", none) "side" "side" (top 14)) rfl
  have C_side := fun (base : Heap) => call_of D10 (ok_side (P := P) (w := w) (base := base) fx (C_check_level base) (C_power base) D10) (He.glo_ok X G (c.t.d.fact 27 (f := .glo "side") rfl)) (fun _ _ _ _ _ _ us hl => match us, hl with | [_, _], _ => rfl)
  obtain ⟨fd11, D11⟩ := c.t.d.def_ 11 (d := mkD ("check_cell", none) "check_cell" "check_cell" (top 16)) rfl
  have C_check_cell := fun (base : Heap) => call_of D11 (ok_check_cell (P := P) (w := w) (base := base) fx (C_is_number base) (C_side base) D11) (He.glo_ok X G (c.t.d.fact 28 (f := .glo "check_cell") rfl)) (fun _ _ _ _ _ _ us hl => match us, hl with | [_, _, _, _], _ => rfl)
  obtain ⟨fd12, D12⟩ := c.t.d.def_ 12 (d := mkD ("check_number", none) "check_number" "check_number" (top 17)) rfl
  have C_check_number := fun (base : Heap) => call_of D12 (ok_check_number (P := P) (w := w) (base := base) fx (C_check_level base) (C_is_number base) (C_power base) (C_Curve_parts base) D12) (He.glo_ok X G (c.t.d.fact 29 (f := .glo "check_number") rfl)) (fun _ _ _ _ _ _ us hl => match us, hl with | [_, _, _], _ => rfl)
  obtain ⟨fd13, D13⟩ := c.t.d.def_ 13 (d := mkD ("digits_of", none) "digits_of" "digits_of" (top 18)) rfl
  have C_digits_of := fun (base : Heap) => call_of D13 (ok_digits_of (P := P) (w := w) (base := base) fx (C_check_cell base) (C_side base) (C_Curve_place base) D13) (He.glo_ok X G (c.t.d.fact 30 (f := .glo "digits_of") rfl)) (fun _ _ _ _ _ _ us hl => match us, hl with | [_, _, _, _], _ => rfl)
  obtain ⟨fd14, D14⟩ := c.t.d.def_ 14 (d := mkD ("number_of", none) "number_of" "number_of" (top 19)) rfl
  have C_number_of := fun (base : Heap) => call_of D14 (ok_number_of (P := P) (w := w) (base := base) fx (C_digits_of base) (C_Curve_parts base) D14) (He.glo_ok X G (c.t.d.fact 31 (f := .glo "number_of") rfl)) (fun _ _ _ _ _ _ us hl => match us, hl with | [_, _, _, _], _ => rfl)
  obtain ⟨fd15, D15⟩ := c.t.d.def_ 15 (d := mkD ("places_of", none) "places_of" "places_of" (top 20)) rfl
  have C_places_of := fun (base : Heap) => call_of D15 (ok_places_of (P := P) (w := w) (base := base) fx (C_check_number base) (C_Curve_parts base) D15) (He.glo_ok X G (c.t.d.fact 32 (f := .glo "places_of") rfl)) (fun _ _ _ _ _ _ us hl => match us, hl with | [_, _, _], _ => rfl)
  obtain ⟨fd16, D16⟩ := c.t.d.def_ 16 (d := mkD ("cell_at", none) "cell_at" "cell_at" (top 22)) rfl
  have C_cell_at := fun (base : Heap) => call_of D16 (ok_cell_at (P := P) (w := w) (base := base) fx  D16) (He.glo_ok X G (c.t.d.fact 33 (f := .glo "cell_at") rfl)) (fun _ _ _ _ _ _ us hl => match us, hl with | [_, _, _], _ => rfl)
  obtain ⟨fd17, D17⟩ := c.t.d.def_ 17 (d := mkD ("cell_of", none) "cell_of" "cell_of" (top 21)) rfl
  have C_cell_of := fun (base : Heap) => call_of D17 (ok_cell_of (P := P) (w := w) (base := base) fx (C_cell_at base) (C_places_of base) D17) (He.glo_ok X G (c.t.d.fact 34 (f := .glo "cell_of") rfl)) (fun _ _ _ _ _ _ us hl => match us, hl with | [_, _, _], _ => rfl)
  obtain ⟨fd18, D18⟩ := c.t.d.def_ 18 (d := mkD ("state_of", none) "state_of" "state_of" (top 23)) rfl
  have C_state_of := fun (base : Heap) => call_of D18 (ok_state_of (P := P) (w := w) (base := base) fx (C_places_of base) D18) (He.glo_ok X G (c.t.d.fact 35 (f := .glo "state_of") rfl)) (fun _ _ _ _ _ _ us hl => match us, hl with | [_, _, _], _ => rfl)
  obtain ⟨fd19, D19⟩ := c.t.d.def_ 19 (d := mkD ("_law_number", none) "_law_number" "_law_number" (top 25)) rfl
  have C__law_number := fun (base : Heap) => call_of D19 (ok__law_number (P := P) (w := w) (base := base) fx  D19) (He.glo_ok X G (c.t.d.fact 36 (f := .glo "_law_number") rfl)) (fun _ _ _ _ _ _ us hl => match us, hl with | [_, _], _ => rfl)
  obtain ⟨fd20, D20⟩ := c.t.d.def_ 20 (d := mkD ("_law_take", none) "_law_take" "_law_take" (top 26)) rfl
  have C__law_take := fun (base : Heap) => call_of D20 (ok__law_take (P := P) (w := w) (base := base) fx (C__law_number base) D20) (He.glo_ok X G (c.t.d.fact 37 (f := .glo "_law_take") rfl)) (fun _ _ _ _ _ _ us hl => match us, hl with | [_, _], _ => rfl)
  obtain ⟨fd21, D21⟩ := c.t.d.def_ 21 (d := mkD ("_law_pick", none) "_law_pick" "_law_pick" (top 27)) rfl
  have C__law_pick := fun (base : Heap) => call_of D21 (ok__law_pick (P := P) (w := w) (base := base) fx (C__law_take base) D21) (He.glo_ok X G (c.t.d.fact 38 (f := .glo "_law_pick") rfl)) (fun _ _ _ _ _ _ us hl => match us, hl with | [_, _], _ => rfl)
  obtain ⟨fd22, D22⟩ := c.t.d.def_ 22 (d := mkD ("_law_rows", none) "_law_rows" "_law_rows" (top 28)) rfl
  have C__law_rows := fun (base : Heap) => call_of D22 (ok__law_rows (P := P) (w := w) (base := base) fx (C__law_pick base) (C__law_take base) D22) (He.glo_ok X G (c.t.d.fact 39 (f := .glo "_law_rows") rfl)) (fun _ _ _ _ _ _ us hl => match us, hl with | [_, _, _], _ => rfl)
  obtain ⟨fd23, D23⟩ := c.t.d.def_ 23 (d := mkD ("_law_curve", none) "_law_curve" "_law_curve" (top 29)) rfl
  have C__law_curve := fun (base : Heap) => call_of D23 (ok__law_curve (P := P) (w := w) (base := base) fx (C__law_rows base) (C__law_take base) D23) (He.glo_ok X G (c.t.d.fact 40 (f := .glo "_law_curve") rfl)) (fun _ _ _ _ _ _ us hl => match us, hl with | [_, _], _ => rfl)
  obtain ⟨fd24, D24⟩ := c.t.d.def_ 24 (d := mkD ("_law_numbered", none) "_law_numbered" "_law_numbered" (top 30)) rfl
  have C__law_numbered := fun (base : Heap) => call_of D24 (ok__law_numbered (P := P) (w := w) (base := base) fx  D24) (He.glo_ok X G (c.t.d.fact 41 (f := .glo "_law_numbered") rfl)) (fun _ _ _ _ _ _ us hl => match us, hl with | [_, _], _ => rfl)
  obtain ⟨fd25, D25⟩ := c.t.d.def_ 25 (d := mkD ("_law_built", none) "_law_built" "_law_built" (top 31)) rfl
  have C__law_built := fun (base : Heap) => call_of D25 (ok__law_built (P := P) (w := w) (base := base) fx (M_Curve base) D25) (He.glo_ok X G (c.t.d.fact 42 (f := .glo "_law_built") rfl)) (fun _ _ _ _ _ _ us hl => match us, hl with | [_], _ => rfl)
  obtain ⟨fd26, D26⟩ := c.t.d.def_ 26 (d := mkD ("law", none) "law" "law" (top 32)) rfl
  exact ⟨fd26, fun s v => FunD.bindsA (ps := ["script"]) D26 (fun _ _ _ _ _ _ us hl => match us, hl with | [_], _ => rfl) s [v] rfl, fun base _ _ => ok_law fx (C__law_built base) (C__law_curve base) (C__law_numbered base) (C__law_take base) (C_cell_of base) (C_digits_of base) (C_number_of base) (C_places_of base) (C_side base) (C_state_of base) D26⟩
end CC.K26
end

open PySem PySem.W PySem.Calls PyProof.Rows
theorem PySem.Challenge.cw_cellcurves_k26_levels_below_levels_holds : PySem.Challenge.rw_cellcurves_k26_levels_below_levels.Holds := by
  w_on; o_law
  refine HandSHeadRun.head_any (r := OpenLaw.row PySem.Challenge.rw_cellcurves_k26_levels_below_levels) (q := view (OpenLaw.row PySem.Challenge.rw_cellcurves_k26_levels_below_levels).prog [32]) (H := CC.K26.hk) (ob := CC.K26.ob) (M := 4000) (loose := CC.K26.loose) (d := HandSHeadRun.topDef (OpenLaw.row PySem.Challenge.rw_cellcurves_k26_levels_below_levels).prog 32) (kwd := []) CC.K26.ob_eq
    (by kernel_rfl) (fun s => by kernel_rfl) CC.K26.run (by kernel_rfl) (by kernel_rfl) (by kernel_rfl) (by rfl) (by first | assumption | decide +kernel) (by decide +kernel) ⟨rfl, rfl, rfl, rfl, rfl, by decide +kernel⟩ ?hw ?hc
  case hw => w_witness2
  case hc =>
    refine L2.walk_ofE (l := PySem.Challenge.rw_cellcurves_k26_levels_below_levels) (n := 63) (k := 8) (x := "script") (CX := L2.CX0) rfl (by decide) (by kernel_rfl) ⟨rfl, by decide, by decide⟩ ?F (fun _ _ _ _ z => z)
    intro w mg fa h Y G hmg0
    obtain ⟨K, KX, c⟩ := Y
    have hmg : mg ("law" : PySem.Str) = some (.ref fa) := by
      have e : (HandSHeadRun.topDef (OpenLaw.row PySem.Challenge.rw_cellcurves_k26_levels_below_levels).prog 32).name = ("law" : PySem.Str) := by kernel_rfl
      rw [← e]
      exact hmg0
    obtain ⟨fd, hb, hF⟩ := CC.K26.facts (P := (PySem.Challenge.rw_cellcurves_k26_levels_below_levels).prog) (w := w) KX G hmg c
    exact ⟨K, fd, CC.spF K (CC.K26.TT (CC.K26.caOf K)) 1 CC.K26.F_law, KX, hb, fun H a ns hl _ hS => CC.sp_of CC.K26.law_plain hl hS, hF⟩

