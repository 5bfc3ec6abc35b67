import PyProof.Rows.All
import Wide.All
import OpenK.AllK
import Wide.FinOn
import HandS.ForMost
import PySem.Challenge.RW_turnbase_k29_chains_from_the_far_end
import PySem.Str
import HandS.Exc
import HandS.TryOnly
import HandS.ExcOwn
import HandS.WordsExc
import HandS.Wide
import HandS.SortInts
import HandS.More
import HandS.Style
import HandS.Conv
import HandS.IsInst
import HandS.Deep
import KE.SortData
import HandS.Dict
import KE.KDictList
import HandS.SetFor
import HandS.Strs
import HandS.ListItems
section
set_option linter.all false
namespace Mi
open PySem

inductive D where
  | non | bl (b : Bool) | int (i : Int) | str (x : Str)
  | tup (xs : List D) | lst (xs : List D) | dct (ks vs : List D) | obj (c : Nat) (fs : List D)
  | cell (k : Nat)
    | fro (xs : List D)
  deriving Inhabited

inductive Cell where
  | lst (xs : List D) | dct (ks vs : List D) | obj (c : Nat) (fs : List D)
  deriving Inhabited

abbrev Cs := List Cell
abbrev Env := List (Option D)

mutual
def D.beq : D → D → Bool
  | .non, .non => true
  | .bl a, .bl b => a == b
  | .int i, .int j => decide (i = j)
  | .str x, .str y => decide (x = y)
  | .tup xs, .tup ys => D.beqs xs ys
  | .lst xs, .lst ys => D.beqs xs ys
  | .fro xs, .fro ys => D.beqs xs ys
  | .dct ks vs, .dct ls ws => D.beqs ks ls && D.beqs vs ws
  | .obj c fs, .obj d gs => decide (c = d) && D.beqs fs gs
  | .cell k, .cell l => decide (k = l)
  | _, _ => false
def D.beqs : List D → List D → Bool
  | [], [] => true
  | x :: xs, y :: ys => D.beq x y && D.beqs xs ys
  | _, _ => false
end
mutual
theorem D.beq_eq : ∀ x y : D, D.beq x y = true → x = y
  | .non, y, h => by cases y <;> simp [D.beq] at h ⊢
  | .bl a, y, h => by cases y <;> simp [D.beq] at h ⊢; exact h
  | .int a, y, h => by cases y <;> simp [D.beq] at h ⊢; exact h
  | .str a, y, h => by cases y <;> simp [D.beq] at h ⊢; exact h
  | .tup xs, y, h => by
    cases y <;> simp only [D.beq, reduceCtorEq, Bool.false_eq_true] at h ⊢
    rw [D.beqs_eq _ _ h]
  | .lst xs, y, h => by
    cases y <;> simp only [D.beq, reduceCtorEq, Bool.false_eq_true] at h ⊢
    rw [D.beqs_eq _ _ h]
  | .fro xs, y, h => by
    cases y <;> simp only [D.beq, reduceCtorEq, Bool.false_eq_true] at h ⊢
    rw [D.beqs_eq _ _ h]
  | .dct ks vs, y, h => by
    cases y <;> simp only [D.beq, reduceCtorEq, Bool.false_eq_true, Bool.and_eq_true] at h ⊢
    rw [D.beqs_eq _ _ h.1, D.beqs_eq _ _ h.2]
  | .obj c fs, y, h => by
    cases y <;> simp only [D.beq, reduceCtorEq, Bool.false_eq_true, Bool.and_eq_true, decide_eq_true_eq] at h ⊢
    rw [D.beqs_eq _ _ h.2, h.1]
  | .cell k, y, h => by cases y <;> simp [D.beq] at h ⊢; exact h
theorem D.beqs_eq : ∀ xs ys : List D, D.beqs xs ys = true → xs = ys
  | [], ys, h => by cases ys <;> simp [D.beqs] at h ⊢
  | x :: xs, ys, h => by
    cases ys with
    | nil => simp [D.beqs] at h
    | cons y ys =>
      simp only [D.beqs, Bool.and_eq_true] at h
      rw [D.beq_eq x y h.1, D.beqs_eq xs ys h.2]
end
mutual
theorem D.beq_rfl : ∀ x : D, D.beq x x = true
  | .non => rfl
  | .bl a => by simp [D.beq]
  | .int a => by simp [D.beq]
  | .str a => by simp [D.beq]
  | .tup xs => by simp only [D.beq]; exact D.beqs_rfl xs
  | .lst xs => by simp only [D.beq]; exact D.beqs_rfl xs
  | .fro xs => by simp only [D.beq]; exact D.beqs_rfl xs
  | .dct ks vs => by simp only [D.beq, D.beqs_rfl ks, D.beqs_rfl vs, Bool.and_self]
  | .obj c fs => by simp only [D.beq, D.beqs_rfl fs, Bool.and_true, decide_true]
  | .cell k => by simp [D.beq]
theorem D.beqs_rfl : ∀ xs : List D, D.beqs xs xs = true
  | [] => rfl
  | x :: xs => by simp only [D.beqs, D.beq_rfl x, D.beqs_rfl xs, Bool.and_self]
end
theorem D.beq_iff {x y : D} : D.beq x y = true ↔ x = y := ⟨D.beq_eq x y, fun h => h ▸ D.beq_rfl x⟩
theorem D.beqs_iff {x y : List D} : D.beqs x y = true ↔ x = y := ⟨D.beqs_eq x y, fun h => h ▸ D.beqs_rfl x⟩
instance : DecidableEq D := fun x y => decidable_of_iff _ D.beq_iff

mutual
def D.under (n : Nat) : D → Bool
  | .tup xs => D.unders n xs
  | .lst xs => D.unders n xs
  | .fro xs => D.unders n xs
  | .dct ks vs => D.unders n ks && D.unders n vs
  | .obj _ fs => D.unders n fs
  | .cell k => decide (k < n)
  | _ => true
def D.unders (n : Nat) : List D → Bool
  | [] => true
  | x :: xs => D.under n x && D.unders n xs
end
def Cell.under (n : Nat) : Cell → Bool
  | .lst xs => D.unders n xs
  | .dct ks vs => D.unders n ks && D.unders n vs
  | .obj _ fs => D.unders n fs

mutual
def D.subst (g : Nat → Option D) : D → Option D
  | .tup xs => (D.substs g xs).map .tup
  | .lst xs => (D.substs g xs).map .lst
  | .fro xs => (D.substs g xs).map .fro
  | .dct ks vs => (D.substs g ks).bind fun ks' => (D.substs g vs).map fun vs' => .dct ks' vs'
  | .obj c fs => (D.substs g fs).map (.obj c)
  | .cell k => g k
  | d => some d
def D.substs (g : Nat → Option D) : List D → Option (List D)
  | [] => some []
  | x :: xs => (D.subst g x).bind fun x' => (D.substs g xs).map fun xs' => x' :: xs'
end
def Cell.subst (g : Nat → Option D) : Cell → Option D
  | .lst xs => (D.substs g xs).map .lst
  | .dct ks vs => (D.substs g ks).bind fun ks' => (D.substs g vs).map fun vs' => .dct ks' vs'
  | .obj c fs => (D.substs g fs).map (.obj c)
def look (n : Nat) (cs : Cs) : Nat → Nat → Option D
  | 0, k => if k < n then some (.cell k) else none
  | f + 1, k => if k < n then some (.cell k) else (cs[k]?).bind (Cell.subst (look n cs f))
def DEEP : Nat := 8
def frozen (n : Nat) (cs : Cs) (d : D) : Option D := D.subst (look n cs DEEP) d
def eqCell : Option Cell → Option Cell → Bool
  | some (.lst xs), some (.lst ys) => D.beqs xs ys
  | some (.dct ks vs), some (.dct ls ws) => D.beqs ks ls && D.beqs vs ws
  | some (.obj c fs), some (.obj d gs) => decide (c = d) && D.beqs fs gs
  | none, none => true
  | _, _ => false
def okBelow (n : Nat) : Option Cell → Bool
  | some c => c.under n
  | none => false
def popOk (n : Nat) (cs cs' : Cs) : Bool := (List.range n).all fun k => eqCell cs'[k]? cs[k]? || okBelow n cs'[k]?

inductive R (α : Type) where
  | v (a : α) (cs : Cs)
  | x (c : Nat) (cs : Cs)
abbrev E := Env → Cs → Option (R D)
abbrev EL := Env → Cs → Option (R (List D))
abbrev Fn := List D → Cs → Option (R D)
def bnd {α β : Type} (m : Option (R α)) (f : α → Cs → Option (R β)) : Option (R β) :=
  match m with
  | some (.v a cs) => f a cs
  | some (.x c cs) => some (.x c cs)
  | none => none
def out {α : Type} (m : Option α) (cs : Cs) : Option (R α) := m.map fun a => .v a cs
section
variable {α β : Type} {a : α} {c : Nat} {cs : Cs} {f : α → Cs → Option (R β)}
@[simp] theorem bnd_v : bnd (some (.v a cs)) f = f a cs := rfl
@[simp] theorem bnd_x : bnd (some (.x c cs) : Option (R α)) f = some (.x c cs) := rfl
@[simp] theorem bnd_n : bnd (none : Option (R α)) f = none := rfl
@[simp] theorem out_s : out (some a) cs = some (.v a cs) := rfl
@[simp] theorem out_n : out (none : Option α) cs = none := rfl
end

def SIZE : Nat := 16777216
def FUEL : Nat := 18446744073709551616

def lstOf (cs : Cs) : D → Option (List D)
  | .lst xs => some xs
  | .fro xs => some xs
  | .cell k => match cs[k]? with
    | some (.lst xs) => some xs
    | _ => none
  | _ => none
def ownOf (cs : Cs) : D → Option (List D)
  | .lst xs => some xs
  | .cell k => match cs[k]? with
    | some (.lst xs) => some xs
    | _ => none
  | _ => none
def seqOf (cs : Cs) : D → Option (List D)
  | .tup xs => some xs
  | d => lstOf cs d
def dctOf (cs : Cs) : D → Option (List D × List D)
  | .dct ks vs => some (ks, vs)
  | .cell k => match cs[k]? with
    | some (.dct ks vs) => some (ks, vs)
    | _ => none
  | _ => none
def cellD (cs : Cs) : D → Option (Nat × List D × List D)
  | .cell k => match cs[k]? with
    | some (.dct ks vs) => some (k, ks, vs)
    | _ => none
  | _ => none
def objOf (cs : Cs) : D → Option (Nat × List D)
  | .obj c fs => some (c, fs)
  | .cell k => match cs[k]? with
    | some (.obj c fs) => some (c, fs)
    | _ => none
  | _ => none
def ixN (n : Nat) (i : Int) : Option Nat := if 0 ≤ i then (if i < n then some i.toNat else none) else if -(n : Int) ≤ i then some (i + n).toNat else none
def atI {α : Type} (xs : List α) (i : Int) : Option α := (ixN xs.length i).bind fun j => xs[j]?
def sIx (n d : Nat) : Option Int → Nat
  | none => d
  | some i => if i < 0 then (i + n).toNat else min i.toNat n
def cut {α : Type} (xs : List α) (lo hi : Option Int) : List α := (xs.drop (sIx xs.length 0 lo)).take (sIx xs.length xs.length hi - sIx xs.length 0 lo)
def find (k : D) : List D → List D → Option D
  | k' :: ks, v :: vs => if k' = k then some v else find k ks vs
  | _, _ => none
def put (k v : D) (ks vs : List D) : List D × List D :=
  if k ∈ ks then (ks, List.zipWith (fun k' v' => if k' = k then v else v') ks vs) else (ks ++ [k], vs ++ [v])

def eVar (i : Nat) : E := fun env cs => match env[i]? with
  | some (some d) => some (.v d cs)
  | _ => none
def eC (d : D) : E := fun _ cs => some (.v d cs)
def e1 (op : Cs → D → Option D) (a : E) : E := fun env cs => bnd (a env cs) fun x cs => out (op cs x) cs
def e2 (op : Cs → D → D → Option D) (a b : E) : E := fun env cs => bnd (a env cs) fun x cs => bnd (b env cs) fun y cs => out (op cs x y) cs
def e3 (op : Cs → D → D → D → Option D) (a b c : E) : E := fun env cs => bnd (a env cs) fun x cs => bnd (b env cs) fun y cs => bnd (c env cs) fun z cs => out (op cs x y z) cs
def aNil : EL := fun _ cs => some (.v [] cs)
def aCons (a : E) (r : EL) : EL := fun env cs => bnd (a env cs) fun x cs => bnd (r env cs) fun xs cs => some (.v (x :: xs) cs)
def eL (l : EL) : E := fun env cs => bnd (l env cs) fun xs cs => some (.v (.lst xs) cs)
def eLc (l : EL) : E := fun env cs => bnd (l env cs) fun xs cs => some (.v (.cell cs.length) (cs ++ [.lst xs]))
def eTup (l : EL) : E := fun env cs => bnd (l env cs) fun xs cs => if xs.length ≤ SIZE then some (.v (.tup xs) cs) else none
def lDisp (l : EL) : EL := fun env cs => bnd (l env cs) fun xs cs => if xs.length ≤ SIZE then some (.v xs cs) else none

def dPairs : List (E × E) → Env → Cs → Option (R (List (D × D)))
  | [], _, cs => some (.v [] cs)
  | (k, v) :: r, env, cs => bnd (k env cs) fun x cs => bnd (v env cs) fun y cs => bnd (dPairs r env cs) fun ps cs => some (.v ((x, y) :: ps) cs)
def isKey : D → Bool
  | .int _ => true
  | .str _ => true
  | _ => false
def puts : List (D × D) → List D × List D → List D × List D
  | [], p => p
  | (k, v) :: r, p => puts r (put k v p.1 p.2)
def eDc (ps : List (E × E)) : E := fun env cs => bnd (dPairs ps env cs) fun qs cs => if qs.all (fun q => isKey q.1) && decide (qs.length ≤ 15) then some (.v (.cell cs.length) (cs ++ [.dct (puts qs ([], [])).1 (puts qs ([], [])).2])) else none

def oAdd : Cs → D → D → Option D
  | _, .int i, .int j => some (.int (i + j))
  | _, _, _ => none
def oSub : Cs → D → D → Option D
  | _, .int i, .int j => some (.int (i - j))
  | _, _, _ => none
def oMul : Cs → D → D → Option D
  | _, .int i, .int j => if i.natAbs.log2 + j.natAbs.log2 < 1000000 then some (.int (i * j)) else none
  | _, _, _ => none
def oDiv : Cs → D → D → Option D
  | _, .int i, .int j => if 0 < j ∧ j.natAbs.log2 < 9000 then some (.int (i / j)) else none
  | _, _, _ => none
def oMod : Cs → D → D → Option D
  | _, .int i, .int j => if 0 < j then some (.int (i % j)) else none
  | _, _, _ => none
def oPow : Cs → D → D → Option D
  | _, .int i, .int j => if 0 ≤ j ∧ j ≤ 1000000 ∧ i.natAbs < 2 ^ 64 then some (.int (i ^ j.toNat)) else none
  | _, _, _ => none
def oNeg : Cs → D → Option D
  | _, .int i => some (.int (-i))
  | _, _ => none
def oAbs : Cs → D → Option D
  | _, .int i => some (.int (if i < 0 then -i else i))
  | _, _ => none
def oInt : Cs → D → Option D
  | _, .int i => some (.int i)
  | _, .bl b => some (.int (if b then 1 else 0))
  | _, _ => none
def oLt : Cs → D → D → Option D
  | _, .int i, .int j => some (.bl (decide (i < j)))
  | _, _, _ => none
def oLe : Cs → D → D → Option D
  | _, .int i, .int j => some (.bl (decide (i ≤ j)))
  | _, _, _ => none
def oGt : Cs → D → D → Option D
  | _, .int i, .int j => some (.bl (decide (j < i)))
  | _, _, _ => none
def oGe : Cs → D → D → Option D
  | _, .int i, .int j => some (.bl (decide (j ≤ i)))
  | _, _, _ => none
def oMin2 : Cs → D → D → Option D
  | _, .int i, .int j => some (.int (if j < i then j else i))
  | _, _, _ => none
def oMax2 : Cs → D → D → Option D
  | _, .int i, .int j => some (.int (if j > i then j else i))
  | _, _, _ => none
def oNot : Cs → D → Option D
  | _, .bl b => some (.bl (!b))
  | _, _ => none
def oLen (cs : Cs) (d : D) : Option D := (seqOf cs d).map fun xs => .int xs.length
def oLenD (cs : Cs) (d : D) : Option D := (dctOf cs d).map fun p => .int p.1.length
def oIx (cs : Cs) (x y : D) : Option D := match y with
  | .int i => (seqOf cs x).bind fun xs => atI xs i
  | _ => none
def oDGet (cs : Cs) (x y : D) : Option D := if isKey y then (dctOf cs x).bind fun p => find y p.1 p.2 else none
def oDIn (cs : Cs) (y x : D) : Option D := if isKey y then (dctOf cs x).map fun p => .bl (find y p.1 p.2).isSome else none
def oDNotIn (cs : Cs) (y x : D) : Option D := if isKey y then (dctOf cs x).map fun p => .bl (!(find y p.1 p.2).isSome) else none
def scal : D → D → Bool
  | .int _, .int _ => true
  | .str _, .str _ => true
  | .bl _, .bl _ => true
  | .non, .non => true
  | _, _ => false
def oEqS (_ : Cs) (x y : D) : Option D := if scal x y then some (.bl (decide (x = y))) else none
def oNeS (_ : Cs) (x y : D) : Option D := if scal x y then some (.bl (!decide (x = y))) else none
mutual
def D.plain : D → Bool
  | .non => true
  | .int _ => true
  | .str x => x.cps.all (· < 0x110000)
  | .tup xs => D.plains xs
  | .lst xs => D.plains xs
  | _ => false
def D.plains : List D → Bool
  | [] => true
  | x :: xs => D.plain x && D.plains xs
end
mutual
def D.depth : D → Nat
  | .tup xs => D.depths xs + 1
  | .lst xs => D.depths xs + 1
  | _ => 0
def D.depths : List D → Nat
  | [] => 0
  | x :: xs => max (D.depth x) (D.depths xs)
end
def D.fit (d : D) : Bool := d.plain && decide (d.depth ≤ 64)
def oEq (cs : Cs) (x y : D) : Option D := (frozen 0 cs x).bind fun d => (frozen 0 cs y).bind fun e => if d.fit && e.fit then some (.bl (decide (d = e))) else none
def oNe (cs : Cs) (x y : D) : Option D := (frozen 0 cs x).bind fun d => (frozen 0 cs y).bind fun e => if d.fit && e.fit then some (.bl (!decide (d = e))) else none
def oIn (cs : Cs) (x y : D) : Option D := (frozen 0 cs x).bind fun d => (frozen 0 cs y).bind fun e => match e with
  | .lst es => if d.fit && (D.lst es).fit then some (.bl (decide (d ∈ es))) else none
  | _ => none
def oNotIn (cs : Cs) (x y : D) : Option D := (frozen 0 cs x).bind fun d => (frozen 0 cs y).bind fun e => match e with
  | .lst es => if d.fit && (D.lst es).fit then some (.bl (!decide (d ∈ es))) else none
  | _ => none

def eAnd (a b : E) : E := fun env cs => bnd (a env cs) fun x cs => match x with
  | .bl true => b env cs
  | .bl false => some (.v (.bl false) cs)
  | _ => none
def eOr (a b : E) : E := fun env cs => bnd (a env cs) fun x cs => match x with
  | .bl true => some (.v (.bl true) cs)
  | .bl false => b env cs
  | _ => none
def eIf (t a b : E) : E := fun env cs => bnd (t env cs) fun x cs => match x with
  | .bl true => a env cs
  | .bl false => b env cs
  | _ => none
def eChain (o o' : Cs → D → D → Option D) (a b c : E) : E := fun env cs => bnd (a env cs) fun x cs => bnd (b env cs) fun y cs => match o cs x y with
  | some (.bl true) => bnd (c env cs) fun z cs => out (o' cs y z) cs
  | some (.bl false) => some (.v (.bl false) cs)
  | _ => none

def lList (a : E) : EL := fun env cs => bnd (a env cs) fun x cs => out (seqOf cs x) cs
def oTuple (cs : Cs) (x : D) : Option D := (seqOf cs x).map .tup
def rng (lo hi : Int) : List D := (List.range (hi - lo).toNat).map fun (k : Nat) => D.int (lo + (k : Int))
def okR (i : Int) : Bool := decide (-(2 ^ 62) ≤ i) && decide (i < 2 ^ 62)
def rngOf (x : D) : Option (List D) := match x with
  | .int n => if 0 ≤ n ∧ n ≤ 16777216 then some (rng 0 n) else none
  | _ => none
def lRange (a : E) : EL := fun env cs => bnd (a env cs) fun x cs => out (rngOf x) cs
def oTupRange (_ : Cs) (x : D) : Option D := (rngOf x).map .tup
def lVals (a : E) : EL := fun env cs => bnd (a env cs) fun x cs => out ((cellD cs x).map fun p => p.2.2) cs
def partOf : Option D → Option (Option Int)
  | none => some none
  | some (.int i) => some (some i)
  | some _ => none
def partE : Option E → Env → Cs → Option (R (Option Int))
  | none => fun _ cs => some (.v none cs)
  | some e => fun env cs => bnd (e env cs) fun y cs => out (partOf (some y)) cs
def lCut (a : E) (lo hi : Option E) : EL := fun env cs => bnd (a env cs) fun x cs => bnd (partE lo env cs) fun l cs => bnd (partE hi env cs) fun h cs => out ((lstOf cs x).map fun xs => cut xs l h) cs
def lBack (a : E) : EL := fun env cs => bnd (a env cs) fun x cs => out ((lstOf cs x).map List.reverse) cs
def lAdd (a b : E) : EL := fun env cs => bnd (a env cs) fun x cs => bnd (b env cs) fun y cs => out ((ownOf cs x).bind fun xs => (ownOf cs y).bind fun ys => if xs.length + ys.length ≤ SIZE then some (xs ++ ys) else none) cs
def lMul (a b : E) : EL := fun env cs => bnd (a env cs) fun x cs => bnd (b env cs) fun y cs => out ((ownOf cs x).bind fun xs => match y with
  | .int n => if 0 ≤ n ∧ xs.length * n.toNat ≤ SIZE ∧ n < 16777216 then some (List.flatten (List.replicate n.toNat xs)) else none
  | _ => none) cs

inductive Ty where
  | int | bool | str | list | tuple
def isaT (cs : Cs) (x : D) : Option Ty → Option Bool
  | none => none
  | some t => match x, t with
    | .non, _ => some false
    | .bl _, .bool => some true
    | .bl _, .int => some true
    | .bl _, _ => some false
    | .int _, .int => some true
    | .int _, _ => some false
    | .str _, .str => some true
    | .str _, _ => some false
    | .tup _, .tuple => some true
    | .tup _, _ => some false
    | .lst _, .list => some true
    | .lst _, _ => some false
    | .fro _, .list => some true
    | .fro _, _ => some false
    | .dct _ _, _ => some false
    | .obj _ _, _ => none
    | .cell k, t => match cs[k]?, t with
      | some (.lst _), .list => some true
      | some (.lst _), _ => some false
      | some (.dct _ _), _ => some false
      | _, _ => none
def oIsa (t : Ty) (cs : Cs) (x : D) : Option D := (isaT cs x (some t)).map .bl
def boolsOf : List D → Option (List Bool)
  | [] => some []
  | .bl b :: xs => (boolsOf xs).map (b :: ·)
  | _ :: _ => none
def oAll (cs : Cs) (x : D) : Option D := ((lstOf cs x).bind boolsOf).map fun bs => .bl (bs.all id)
def oAny (cs : Cs) (x : D) : Option D := ((lstOf cs x).bind boolsOf).map fun bs => .bl (bs.any id)

mutual
def ltD : D → D → Bool
  | .int i, .int j => decide (i < j)
  | .str x, .str y => decide (x.cps.toList < y.cps.toList)
  | .tup xs, .tup ys => ltDs xs ys
  | .lst xs, .lst ys => ltDs xs ys
  | _, _ => false
def ltDs : List D → List D → Bool
  | [], [] => false
  | [], _ :: _ => true
  | _ :: _, [] => false
  | x :: xs, y :: ys => if x = y then ltDs xs ys else ltD x y
end
mutual
def likeD : D → D → Bool
  | .int _, .int _ => true
  | .str _, .str _ => true
  | .tup xs, .tup ys => likeDs xs ys
  | .lst xs, .lst ys => likeDs xs ys
  | _, _ => false
def likeDs : List D → List D → Bool
  | x :: xs, y :: ys => likeD x y && likeDs xs ys
  | _, _ => true
end
def isTup1 : D → Bool
  | .tup (_ :: _) => true
  | _ => false
def isTup : D → Bool
  | .tup _ => true
  | _ => false
def sortable (ds : List D) : Bool := ds.all (fun d => d.fit && ds.all (likeD d)) && (ds.all isTup1 || ds.all fun d => !isTup d) && decide (ds.length ≤ SIZE)
def sortD (ds : List D) : Option (List D) := if sortable ds then some (ds.mergeSort fun x y => !ltD y x) else none
def lSorted (a : E) : EL := fun env cs => bnd (a env cs) fun x cs => out ((lstOf cs x).bind sortD) cs
def intsOf : List D → Option (List Int)
  | [] => some []
  | .int i :: xs => (intsOf xs).map (i :: ·)
  | _ :: _ => none
def insS (i : Int) : List Int → List Int
  | [] => [i]
  | j :: r => if i < j then i :: j :: r else if i = j then j :: r else j :: insS i r
def sortS (ns : List Int) : List Int := ns.foldr insS []
def lSortSet (a : E) : EL := fun env cs => bnd (a env cs) fun x cs => out (((lstOf cs x).bind intsOf).bind fun ns => if ns.length < 64 then some ((sortS ns).map .int) else none) cs

structure It where
  items : List D
  chk : Cs → Bool
abbrev I := Env → Cs → Option (R It)
def sameL (k : Nat) (xs : List D) (cs : Cs) : Bool := match cs[k]? with
  | some (.lst ys) => D.beqs ys xs
  | _ => false
def sameD (k : Nat) (ks vs : List D) (cs : Cs) : Bool := match cs[k]? with
  | some (.dct ls ws) => D.beqs ls ks && D.beqs ws vs
  | _ => false
def stays (cs : Cs) : D → Cs → Bool
  | .cell k => fun cs' => eqCell cs'[k]? cs[k]?
  | _ => fun _ => true
def iLst (a : E) : I := fun env cs => bnd (a env cs) fun x cs => out ((lstOf cs x).map fun xs => ⟨xs, stays cs x⟩) cs
def tupOf : D → Option (List D)
  | .tup xs => some xs
  | _ => none
def iTup (a : E) : I := fun env cs => bnd (a env cs) fun x cs => out ((tupOf x).map fun xs => ⟨xs, fun _ => true⟩) cs
def iRange (a : E) : I := fun env cs => bnd (a env cs) fun x cs => match x with
  | .int n => if okR n then some (.v ⟨rng 0 n, fun _ => true⟩ cs) else none
  | _ => none
def iRange2 (a b : E) : I := fun env cs => bnd (a env cs) fun x cs => bnd (b env cs) fun y cs => match x, y with
  | .int l, .int h => if okR l && okR h then some (.v ⟨rng l h, fun _ => true⟩ cs) else none
  | _, _ => none
def pairs (k : Nat) : List D → List D
  | [] => []
  | x :: xs => .tup [.int k, x] :: pairs (k + 1) xs
def iEnum (a : E) : I := fun env cs => bnd (a env cs) fun x cs => out ((lstOf cs x).map fun xs => ⟨pairs 0 xs, stays cs x⟩) cs
def iEnumT (a : E) : I := fun env cs => bnd (a env cs) fun x cs => out ((tupOf x).map fun xs => ⟨pairs 0 xs, fun _ => true⟩) cs
def iZip (a b : E) : I := fun env cs => bnd (a env cs) fun x cs => bnd (b env cs) fun y cs => out ((seqOf cs x).bind fun xs => (seqOf cs y).map fun ys =>
  ⟨(xs.zip ys).map fun p => .tup [p.1, p.2], fun cs' => stays cs x cs' && stays cs y cs'⟩) cs
def iRev (a : E) : I := fun env cs => bnd (a env cs) fun x cs => out ((lstOf cs x).map fun xs => ⟨xs.reverse, stays cs x⟩) cs
def iKeys (a : E) : I := fun env cs => bnd (a env cs) fun x cs => out ((dctOf cs x).map fun p => ⟨p.1, stays cs x⟩) cs
def iVals (a : E) : I := fun env cs => bnd (a env cs) fun x cs => out ((dctOf cs x).map fun p => ⟨p.2, stays cs x⟩) cs
def iItems (a : E) : I := fun env cs => bnd (a env cs) fun x cs => out ((dctOf cs x).map fun p => ⟨(p.1.zip p.2).map fun q => .tup [q.1, q.2], stays cs x⟩) cs

abbrev G := D → Env → Cs → Option Env
def gN (i : Nat) : G := fun d env _ => some (env.set i (some d))
def gAll : List G → List D → Env → Cs → Option Env
  | [], [], env, _ => some env
  | g :: gs, d :: ds, env, cs => (g d env cs).bind fun env' => gAll gs ds env' cs
  | _, _, _, _ => none
def gT (gs : List G) : G := fun d env cs => match d with
  | .tup ds => gAll gs ds env cs
  | _ => none
def gL (gs : List G) : G := fun d env cs => (lstOf cs d).bind fun ds => gAll gs ds env cs

def wipe (env : Env) : List Nat → Env
  | [] => env
  | v :: vs => (wipe env vs).set v none
def lcLoop (env : Env) (g : G) (t e : E) (chk : Cs → Bool) : List D → List D → Cs → Option (R (List D))
  | [], acc, cs => if chk cs then some (.v acc cs) else none
  | x :: xs, acc, cs => if chk cs then
      (match g x env cs with
      | none => none
      | some env' => match t env' cs with
        | some (.v (.bl true) cs) => (match e env' cs with
          | some (.v y cs) => if acc.length < SIZE then lcLoop env g t e chk xs (acc ++ [y]) cs else none
          | _ => none)
        | some (.v (.bl false) cs) => lcLoop env g t e chk xs acc cs
        | _ => none)
    else none
def lComp (vs : List Nat) (i : I) (g : G) (t e : E) : EL := fun env cs => bnd (i env cs) fun it cs => lcLoop (wipe env vs) g t e it.chk it.items [] cs
def eYes : E := eC (.bl true)

def call (f : Fn) (a : EL) : E := fun env cs => bnd (a env cs) fun xs cs => f xs cs
def popped (f : Fn) : Fn := fun xs cs => match f xs cs with
  | some (.v d cs') => if popOk cs.length cs cs' then (frozen cs.length cs' d).map fun d' => .v d' (cs'.take cs.length) else none
  | some (.x c cs') => if popOk cs.length cs cs' then some (.x c (cs'.take cs.length)) else none
  | none => none
def make (c : Nat) (f : Fn) : Fn := fun xs cs => match f (.cell cs.length :: xs) (cs ++ [.obj c []]) with
  | some (.v .non cs') => some (.v (.cell cs.length) cs')
  | some (.x c cs') => some (.x c cs')
  | _ => none
def oFld (c i : Nat) (cs : Cs) (x : D) : Option D := (objOf cs x).bind fun p => if p.1 = c then p.2[i]? else none

def setCell (k : Nat) (c : Cell) (cs : Cs) : Cs := cs.set k c
def m1 (ok : Cs → D → Bool) (op : Cs → D → List D → Option (D × Cs)) (a : E) (as : EL) : E := fun env cs => bnd (a env cs) fun x cs => if ok cs x then (bnd (as env cs) fun ys cs => match op cs x ys with
  | some (d, cs') => some (.v d cs')
  | none => none) else none
def isL (cs : Cs) (x : D) : Bool := (lstOf cs x).isSome
def isD (cs : Cs) (x : D) : Bool := (dctOf cs x).isSome
def cellL (cs : Cs) : D → Option (Nat × List D)
  | .cell k => match cs[k]? with
    | some (.lst xs) => some (k, xs)
    | _ => none
  | _ => none
def oAppend (cs : Cs) (x : D) (ys : List D) : Option (D × Cs) := match cellL cs x, ys with
  | some (k, xs), [y] => if xs.length < SIZE then some (.non, cs.set k (.lst (xs ++ [y]))) else none
  | _, _ => none
def oExtend (cs : Cs) (x : D) (ys : List D) : Option (D × Cs) := match cellL cs x, ys with
  | some (k, xs), [y] => (match ownOf cs y with
    | some zs => if xs.length + zs.length ≤ SIZE then some (.non, cs.set k (.lst (xs ++ zs))) else none
    | none => none)
  | _, _ => none
def oPop (cs : Cs) (x : D) (ys : List D) : Option (D × Cs) := match cellL cs x, ys with
  | some (k, xs), [] => xs.getLast?.map fun y => (y, cs.set k (.lst xs.dropLast))
  | _, _ => none
def oPopAt (cs : Cs) (x : D) (ys : List D) : Option (D × Cs) := match cellL cs x, ys with
  | some (k, xs), [.int i] => if 0 ≤ i ∧ i < 16777216 then (xs[i.toNat]?).map fun y => (y, cs.set k (.lst (xs.eraseIdx i.toNat))) else none
  | _, _ => none
def oInsert (cs : Cs) (x : D) (ys : List D) : Option (D × Cs) := match cellL cs x, ys with
  | some (k, xs), [.int i, y] => if 0 ≤ i ∧ i.toNat ≤ xs.length ∧ xs.length < SIZE then some (.non, cs.set k (.lst (xs.take i.toNat ++ y :: xs.drop i.toNat))) else none
  | _, _ => none

inductive O where
  | nx (env : Env) (cs : Cs) | rt (d : D) (cs : Cs) | bk (env : Env) (cs : Cs) | ct (env : Env) (cs : Cs) | x (c : Nat) (env : Env) (cs : Cs)
abbrev S := Env → Cs → Option O
def thn {α : Type} (env : Env) (m : Option (R α)) (f : α → Cs → Option O) : Option O := match m with
  | some (.v a cs) => f a cs
  | some (.x c cs) => some (.x c env cs)
  | none => none
section
variable {α : Type} {a : α} {c : Nat} {env : Env} {cs : Cs} {f : α → Cs → Option O}
@[simp] theorem thn_v : thn env (some (.v a cs)) f = f a cs := rfl
@[simp] theorem thn_x : thn env (some (.x c cs) : Option (R α)) f = some (.x c env cs) := rfl
@[simp] theorem thn_n : thn env (none : Option (R α)) f = none := rfl
end
def sNext : S := fun env cs => some (.nx env cs)
def sSeq (a b : S) : S := fun env cs => match a env cs with
  | some (.nx env' cs') => b env' cs'
  | o => o
def sSet (i : Nat) (e : E) : S := fun env cs => thn env (e env cs) fun d cs => some (.nx (env.set i (some d)) cs)
def sAsg (g : G) (e : E) : S := fun env cs => thn env (e env cs) fun d cs => (g d env cs).map fun env' => .nx env' cs
def sPar (i j : Nat) (a b : E) : S := fun env cs => thn env (a env cs) fun x cs => thn env (b env cs) fun y cs => some (.nx ((env.set i (some x)).set j (some y)) cs)
def sAug (i : Nat) (op : Cs → D → D → Option D) (e : E) : S := fun env cs => match env[i]? with
  | some (some x) => thn env (e env cs) fun y cs => (op cs x y).map fun z => .nx (env.set i (some z)) cs
  | _ => none
def sExpr (e : E) : S := fun env cs => thn env (e env cs) fun _ cs => some (.nx env cs)
def sRet (e : E) : S := fun env cs => thn env (e env cs) fun d cs => some (.rt d cs)
def sRetN : S := fun _ cs => some (.rt .non cs)
def sRaise (c : Nat) : S := fun env cs => some (.x c env cs)
def sBreak : S := fun env cs => some (.bk env cs)
def sCont : S := fun env cs => some (.ct env cs)
def sIf (t : E) (a b : S) : S := fun env cs => thn env (t env cs) fun d cs => match d with
  | .bl true => a env cs
  | .bl false => b env cs
  | _ => none
def putL (cs : Cs) (o i v : D) : Option Cs := match cellL cs o, i with
  | some (k, xs), .int z => (ixN xs.length z).map fun j => cs.set k (.lst (xs.set j v))
  | _, _ => none
def putD (cs : Cs) (o i v : D) : Option Cs := match cellD cs o with
  | some (k, ks, vs) => if isKey i ∧ ks.length < SIZE then some (cs.set k (.dct (put i v ks vs).1 (put i v ks vs).2)) else none
  | _ => none
def sPut (op : Cs → D → D → D → Option Cs) (o i e : E) : S := fun env cs => thn env (e env cs) fun v cs => thn env (o env cs) fun x cs => thn env (i env cs) fun y cs => (op cs x y v).map fun cs' => .nx env cs'
def putF (i : Nat) (cs : Cs) (o v : D) : Option Cs := match o with
  | .cell k => (match cs[k]? with
    | some (.obj c fs) => if i < fs.length then some (cs.set k (.obj c (fs.set i v))) else if i = fs.length then some (cs.set k (.obj c (fs ++ [v]))) else none
    | _ => none)
  | _ => none
def sFld (i : Nat) (o e : E) : S := fun env cs => thn env (e env cs) fun v cs => thn env (o env cs) fun x cs => (putF i cs x v).map fun cs' => .nx env cs'
def whileL (t : E) (b : S) : Nat → S
  | 0 => fun _ _ => none
  | f + 1 => fun env cs => thn env (t env cs) fun d cs => match d with
    | .bl true => (match b env cs with
      | some (.nx env' cs') => whileL t b f env' cs'
      | some (.ct env' cs') => whileL t b f env' cs'
      | some (.bk env' cs') => some (.nx env' cs')
      | o => o)
    | .bl false => some (.nx env cs)
    | _ => none
def sWhile (t : E) (b : S) : S := whileL t b FUEL
def forL (g : G) (b : S) (chk : Cs → Bool) : List D → S
  | [] => fun env cs => if chk cs then some (.nx env cs) else none
  | x :: xs => fun env cs => if chk cs then (match g x env cs with
      | none => none
      | some env' => match b env' cs with
        | some (.nx env' cs') => forL g b chk xs env' cs'
        | some (.ct env' cs') => forL g b chk xs env' cs'
        | some (.bk env' cs') => some (.nx env' cs')
        | o => o)
    else none
def sFor (i : I) (g : G) (b : S) : S := fun env cs => thn env (i env cs) fun it cs => forL g b it.chk it.items env cs
def fn (ps n : Nat) (b : S) : Fn := fun xs cs => if xs.length = ps then (match b (xs.map some ++ List.replicate (n - ps) none) cs with
    | some (.rt d cs') => some (.v d cs')
    | some (.nx _ cs') => some (.v .non cs')
    | some (.x c _ cs') => some (.x c cs')
    | _ => none) else none
end Mi
end
section
set_option Elab.async false
set_option linter.all false
set_option maxRecDepth 100000
set_option maxHeartbeats 4000000
namespace Br
open PySem PySem.Spec PyProof.Rows L2

abbrev Tab := Nat → Option (Addr × List Str)
def keyD : Key → Mi.D
  | .inl i => .int i
  | .inr x => .str x
section
variable (K : PySem.W.Frag) (T : Tab) (α : List Addr) (F : Hp)
mutual
def Rp : Mi.D → V → Prop
  | .non, v => v = .non
  | .bl b, v => v = .bl b
  | .int i, v => v = .int i
  | .str x, v => v = .str x
  | .tup xs, v => ∃ a vs, v = .ref a ∧ SqT K F a vs ∧ Rps xs vs
  | .lst xs, v => ∃ a vs, v = .ref a ∧ F a = some (.lst vs) ∧ Rps xs vs
  | .fro xs, v => ∃ a vs, v = .ref a ∧ SqL K F a vs ∧ Rps xs vs
  | .dct ks ws, v => ∃ (a : Addr) (kvs : List (Key × V)), v = .ref a ∧ Rd F a (.dK kvs) ∧ kvs.map (fun p => keyD p.1) = ks ∧ Rps ws (kvs.map (·.2))
  | .obj c fs, v => ∃ (a C dx : Addr) (nm : List Str) (gs : List (Str × V)), v = .ref a ∧ T c = some (C, nm) ∧ F a = some (.ins C dx gs) ∧ gs.map (·.1) = nm.take gs.length ∧ Rps fs (gs.map (·.2))
  | .cell k, v => ∃ a, α[k]? = some a ∧ v = .ref a
def Rps : List Mi.D → List V → Prop
  | [], vs => vs = []
  | x :: xs, vs => ∃ v r, vs = v :: r ∧ Rp x v ∧ Rps xs r
end
def COk (H : Hp) (a : Addr) : Mi.Cell → Prop
  | .lst xs => ∃ vs, H a = some (.lst vs) ∧ Rps K T α F xs vs
  | .dct ks ws => ∃ kvs : List (Key × V), H a = some (.dK kvs) ∧ kvs.map (fun p => keyD p.1) = ks ∧ Rps K T α F ws (kvs.map (·.2))
  | .obj c fs => ∃ (C dx : Addr) (nm : List Str) (gs : List (Str × V)), T c = some (C, nm) ∧ H a = some (.ins C dx gs) ∧ gs.map (·.1) = nm.take gs.length ∧ Rps K T α F fs (gs.map (·.2))
end
structure FLe (F F' : Hp) : Prop where
  rd : ∀ a u, Rd F a u → Rd F' a u
  ex : ∀ a o, F a = some o → (∀ kvs, o ≠ .dK kvs) → (∀ kvs, o ≠ .dT kvs) → F' a = some o
theorem FLe.refl (F : Hp) : FLe F F := ⟨fun _ _ h => h, fun _ _ h _ _ => h⟩
theorem FLe.trans {F F1 F2 : Hp} (a : FLe F F1) (b : FLe F1 F2) : FLe F F2 := ⟨fun x u h => b.rd x u (a.rd x u h), fun x o h h1 h2 => b.ex x o (a.ex x o h h1 h2) h1 h2⟩
theorem FLe.of_same {F F' : Hp} (h : Same F F') : FLe F F' := ⟨fun a u r => by
  rcases r with r | ⟨o, r⟩
  · exact .inl (h _ _ r)
  · exact .inr ⟨o, h _ _ r⟩, fun a o r _ _ => h _ _ r⟩
structure Lt (α : List Addr) (F : Hp) (α' : List Addr) (F' : Hp) : Prop where
  al : α <+: α'
  fl : FLe F F'
structure Nx (α : List Addr) (F H : Hp) (α' : List Addr) (F' H' : Hp) : Prop extends Lt α F α' F' where
  fr : ∀ b o, H b = some o → F b = none → b ∉ α → H' b = some o ∧ F' b = none ∧ b ∉ α'
  dom : ∀ b, H' b = none → H b = none
theorem Lt.refl (α : List Addr) (F : Hp) : Lt α F α F := ⟨List.prefix_rfl, FLe.refl F⟩
theorem Lt.trans {α α1 α2 : List Addr} {F F1 F2 : Hp} (a : Lt α F α1 F1) (b : Lt α1 F1 α2 F2) : Lt α F α2 F2 := ⟨a.al.trans b.al, a.fl.trans b.fl⟩
section
variable {K : PySem.W.Frag} {T : Tab} {α α' : List Addr} {F F' H : Hp}
theorem FLe.sqL {a : Addr} {xs : List V} (h : FLe F F') (s : SqL K F a xs) : SqL K F' a xs := by
  rcases s with s | s
  · exact .inl (h.rd _ _ s)
  · exact .inr s
theorem FLe.sqT {a : Addr} {xs : List V} (h : FLe F F') (s : SqT K F a xs) : SqT K F' a xs := by
  rcases s with s | s
  · exact .inl (h.rd _ _ s)
  · exact .inr s
theorem pre_get {l m : List Addr} (h : l <+: m) {k : Nat} {a : Addr} (e : l[k]? = some a) : m[k]? = some a := by
  obtain ⟨r, rfl⟩ := h
  rw [List.getElem?_append_left (List.getElem?_eq_some_iff.mp e).1]
  exact e
mutual
theorem Rp.mono (h : Lt α F α' F') : ∀ (d : Mi.D) (v : V), Rp K T α F d v → Rp K T α' F' d v
  | .non, _, r => r
  | .bl _, _, r => r
  | .int _, _, r => r
  | .str _, _, r => r
  | .tup xs, _, r => by
    obtain ⟨a, vs, e, s, q⟩ := r
    exact ⟨a, vs, e, h.fl.sqT s, Rps.mono h xs vs q⟩
  | .lst xs, _, r => by
    obtain ⟨a, vs, e, s, q⟩ := r
    exact ⟨a, vs, e, h.fl.ex _ _ s (fun _ z => nomatch z) (fun _ z => nomatch z), Rps.mono h xs vs q⟩
  | .fro xs, _, r => by
    obtain ⟨a, vs, e, s, q⟩ := r
    exact ⟨a, vs, e, h.fl.sqL s, Rps.mono h xs vs q⟩
  | .dct ks ws, _, r => by
    obtain ⟨a, kvs, e, s, k, q⟩ := r
    exact ⟨a, kvs, e, h.fl.rd _ _ s, k, Rps.mono h ws _ q⟩
  | .obj c fs, _, r => by
    obtain ⟨a, C, dx, nm, gs, e, t, s, k, q⟩ := r
    exact ⟨a, C, dx, nm, gs, e, t, h.fl.ex _ _ s (fun _ z => nomatch z) (fun _ z => nomatch z), k, Rps.mono h fs _ q⟩
  | .cell k, _, r => by
    obtain ⟨a, e, q⟩ := r
    exact ⟨a, pre_get h.al e, q⟩
theorem Rps.mono (h : Lt α F α' F') : ∀ (ds : List Mi.D) (vs : List V), Rps K T α F ds vs → Rps K T α' F' ds vs
  | [], _, r => r
  | d :: ds, _, r => by
    obtain ⟨v, s, e, p, q⟩ := r
    exact ⟨v, s, e, Rp.mono h d v p, Rps.mono h ds s q⟩
end
theorem COk.mono (h : Lt α F α' F') {a : Addr} {c : Mi.Cell} (r : COk K T α F H a c) : COk K T α' F' H a c := by
  cases c with
  | lst xs =>
    obtain ⟨vs, e, q⟩ := r
    exact ⟨vs, e, Rps.mono h _ _ q⟩
  | dct ks ws =>
    obtain ⟨kvs, e, k, q⟩ := r
    exact ⟨kvs, e, k, Rps.mono h _ _ q⟩
  | obj c fs =>
    obtain ⟨C, dx, nm, gs, t, e, k, q⟩ := r
    exact ⟨C, dx, nm, gs, t, e, k, Rps.mono h _ _ q⟩
mutual
theorem Rp.under : ∀ (d : Mi.D) (v : V), Rp K T α F d v → d.under α.length = true
  | .non, _, _ => rfl
  | .bl _, _, _ => rfl
  | .int _, _, _ => rfl
  | .str _, _, _ => rfl
  | .tup xs, _, r => by
    obtain ⟨_, vs, _, _, q⟩ := r
    simp only [Mi.D.under]
    exact Rps.unders xs vs q
  | .lst xs, _, r => by
    obtain ⟨_, vs, _, _, q⟩ := r
    simp only [Mi.D.under]
    exact Rps.unders xs vs q
  | .fro xs, _, r => by
    obtain ⟨_, vs, _, _, q⟩ := r
    simp only [Mi.D.under]
    exact Rps.unders xs vs q
  | .dct ks ws, _, r => by
    obtain ⟨_, kvs, _, hrd, k, q⟩ := r
    simp only [Mi.D.under, Bool.and_eq_true]
    refine ⟨?_, Rps.unders ws _ q⟩
    rw [← k]
    clear q k hrd
    induction kvs with
    | nil => rfl
    | cons p r ih =>
      rw [List.map_cons]
      simp only [Mi.D.unders, ih, Bool.and_true]
      cases p.1 <;> rfl
  | .obj c fs, _, r => by
    obtain ⟨_, _, _, _, gs, _, _, _, _, q⟩ := r
    simp only [Mi.D.under]
    exact Rps.unders fs _ q
  | .cell k, _, r => by
    obtain ⟨a, e, _⟩ := r
    simp only [Mi.D.under]
    exact decide_eq_true (List.getElem?_eq_some_iff.mp e).1
theorem Rps.unders : ∀ (ds : List Mi.D) (vs : List V), Rps K T α F ds vs → Mi.D.unders α.length ds = true
  | [], _, _ => rfl
  | d :: ds, _, r => by
    obtain ⟨v, s, _, p, q⟩ := r
    simp only [Mi.D.unders, Bool.and_eq_true]
    exact ⟨Rp.under d v p, Rps.unders ds s q⟩
end
theorem Rps.length : ∀ {ds : List Mi.D} {vs : List V}, Rps K T α F ds vs → vs.length = ds.length
  | [], vs, r => by
    have e : vs = [] := r
    rw [e]
    rfl
  | d :: ds, _, r => by
    obtain ⟨v, s, rfl, _, q⟩ := r
    rw [List.length_cons, List.length_cons, Rps.length q]
theorem Rps.get : ∀ {ds : List Mi.D} {vs : List V} {i : Nat} {d : Mi.D}, Rps K T α F ds vs → ds[i]? = some d → ∃ v, vs[i]? = some v ∧ Rp K T α F d v
  | [], _, _, _, _, e => by simp at e
  | x :: ds, _, 0, d, r, e => by
    obtain ⟨v, s, rfl, p, q⟩ := r
    have e' : x = d := by simpa using e
    subst e'
    exact ⟨v, rfl, p⟩
  | x :: ds, _, i + 1, d, r, e => by
    obtain ⟨v, s, rfl, p, q⟩ := r
    obtain ⟨w, h1, h2⟩ := Rps.get (i := i) q (by simpa using e)
    exact ⟨w, by simpa using h1, h2⟩
theorem Rps.append : ∀ {ds es : List Mi.D} {vs ws : List V}, Rps K T α F ds vs → Rps K T α F es ws → Rps K T α F (ds ++ es) (vs ++ ws)
  | [], _, vs, _, r, q => by
    have e : vs = [] := r
    rw [e]
    exact q
  | d :: ds, es, _, ws, r, q => by
    obtain ⟨v, s, rfl, p, t⟩ := r
    exact ⟨v, s ++ ws, rfl, p, Rps.append t q⟩
theorem Rps.one {d : Mi.D} {v : V} (h : Rp K T α F d v) : Rps K T α F [d] [v] := ⟨v, [], rfl, h, rfl⟩
theorem Rps.take : ∀ {ds : List Mi.D} {vs : List V} (n : Nat), Rps K T α F ds vs → Rps K T α F (ds.take n) (vs.take n)
  | _, _, 0, _ => rfl
  | [], vs, n + 1, r => by
    have e : vs = [] := r
    rw [e]
    rfl
  | d :: ds, _, n + 1, r => by
    obtain ⟨v, s, rfl, p, q⟩ := r
    exact ⟨v, s.take n, rfl, p, Rps.take n q⟩
theorem Rps.drop : ∀ {ds : List Mi.D} {vs : List V} (n : Nat), Rps K T α F ds vs → Rps K T α F (ds.drop n) (vs.drop n)
  | _, _, 0, r => r
  | [], vs, n + 1, r => by
    have e : vs = [] := r
    rw [e]
    rfl
  | d :: ds, _, n + 1, r => by
    obtain ⟨v, s, rfl, p, q⟩ := r
    exact Rps.drop n q
theorem Rps.set {d : Mi.D} {w : V} (h : Rp K T α F d w) : ∀ {ds : List Mi.D} {vs : List V} (i : Nat), Rps K T α F ds vs → Rps K T α F (ds.set i d) (vs.set i w)
  | [], vs, _, r => by
    have e : vs = [] := r
    rw [e]
    rfl
  | x :: ds, _, 0, r => by
    obtain ⟨v, s, rfl, p, q⟩ := r
    exact ⟨w, s, rfl, h, q⟩
  | x :: ds, _, i + 1, r => by
    obtain ⟨v, s, rfl, p, q⟩ := r
    exact ⟨v, s.set i w, rfl, p, Rps.set h i q⟩
theorem Rps.reverse : ∀ {ds : List Mi.D} {vs : List V}, Rps K T α F ds vs → Rps K T α F ds.reverse vs.reverse
  | [], vs, r => by
    have e : vs = [] := r
    rw [e]
    rfl
  | d :: ds, _, r => by
    obtain ⟨v, s, rfl, p, q⟩ := r
    rw [List.reverse_cons, List.reverse_cons]
    exact (Rps.reverse q).append (Rps.one p)
theorem Rps.ints : ∀ {ns : List Int} {vs : List V}, Rps K T α F (ns.map Mi.D.int) vs → vs = ns.map V.int
  | [], vs, r => r
  | n :: ns, vs, r => by
    obtain ⟨v, s, rfl, p, q⟩ := r
    have e : v = .int n := p
    rw [e, Rps.ints q]
    rfl
theorem Rps.of_ints : ∀ (ns : List Int), Rps K T α F (ns.map Mi.D.int) (ns.map V.int)
  | [] => rfl
  | n :: ns => ⟨_, _, rfl, rfl, Rps.of_ints ns⟩
end

structure RC (K : PySem.W.Frag) (T : Tab) (α : List Addr) (F : Hp) (cs : Mi.Cs) (H : Hp) : Prop where
  same : Same F H
  len : α.length = cs.length
  nd : α.Nodup
  out : ∀ a ∈ α, F a = none
  ok : ∀ (k : Nat) (a : Addr) (c : Mi.Cell), α[k]? = some a → cs[k]? = some c → COk K T α F H a c
structure Ev (K : PySem.W.Frag) (T : Tab) (α : List Addr) (F : Hp) (env : Mi.Env) (σ : L2.St) : Prop where
  len : env.length = σ.length
  at_ : ∀ (i : Nat) (d : Mi.D), env[i]? = some (some d) → ∃ v, σ[i]? = some (some v) ∧ Rp K T α F d v
section
variable {K : PySem.W.Frag} {T : Tab} {α α' : List Addr} {F F' H H' : Hp} {cs cs' : Mi.Cs} {env : Mi.Env} {σ : L2.St}
theorem Ev.mono (h : Lt α F α' F') (e : Ev K T α F env σ) : Ev K T α' F' env σ := ⟨e.len, fun i d q => by
  obtain ⟨v, h1, h2⟩ := e.at_ i d q
  exact ⟨v, h1, Rp.mono h _ _ h2⟩⟩
theorem Ev.set {d : Mi.D} {v : V} (e : Ev K T α F env σ) (h : Rp K T α F d v) (i : Nat) : Ev K T α F (env.set i (some d)) (σ.set i (some v)) := ⟨by simp [e.len], fun j d' q => by
  by_cases hj : i = j
  · subst hj
    have hl : i < env.length := by
      have := (List.getElem?_eq_some_iff.mp q).1
      simpa using this
    rw [List.getElem?_set_self hl] at q
    cases q
    exact ⟨v, by rw [List.getElem?_set_self (by rw [← e.len]; exact hl)], h⟩
  · rw [List.getElem?_set_ne hj] at q
    obtain ⟨w, h1, h2⟩ := e.at_ j d' q
    exact ⟨w, by rw [List.getElem?_set_ne hj]; exact h1, h2⟩⟩
theorem Ev.wipe (e : Ev K T α F env σ) : ∀ vs : List Nat, Ev K T α F (Mi.wipe env vs) (L2.wipe σ vs)
  | [] => e
  | v :: vs => by
    have ih := Ev.wipe e vs
    refine ⟨by simp [Mi.wipe, L2.wipe, ih.len], fun j d q => ?_⟩
    simp only [Mi.wipe] at q
    by_cases hj : v = j
    · subst hj
      have hl : v < (Mi.wipe env vs).length := by
        have := (List.getElem?_eq_some_iff.mp q).1
        simpa using this
      rw [List.getElem?_set_self hl] at q
      cases q
    · rw [List.getElem?_set_ne hj] at q
      obtain ⟨w, h1, h2⟩ := ih.at_ j d q
      refine ⟨w, ?_, h2⟩
      unfold L2.wipe
      rw [List.getElem?_set_ne hj]
      exact h1
theorem COk.some_of {a : Addr} {c : Mi.Cell} (h : COk K T α F H a c) : ∃ o, H a = some o := by
  cases c with
  | lst xs =>
    obtain ⟨vs, e, _⟩ := h
    exact ⟨_, e⟩
  | dct ks ws =>
    obtain ⟨kvs, e, _⟩ := h
    exact ⟨_, e⟩
  | obj c fs =>
    obtain ⟨C, dx, nm, gs, t, e, _⟩ := h
    exact ⟨_, e⟩
theorem COk.heap {a : Addr} {c : Mi.Cell} (h : COk K T α F H a c) (e : H' a = H a) : COk K T α F H' a c := by
  cases c with
  | lst xs =>
    obtain ⟨vs, q, r⟩ := h
    exact ⟨vs, e.trans q, r⟩
  | dct ks ws =>
    obtain ⟨kvs, q, r⟩ := h
    exact ⟨kvs, e.trans q, r⟩
  | obj c fs =>
    obtain ⟨C, dx, nm, gs, t, q, r⟩ := h
    exact ⟨C, dx, nm, gs, t, e.trans q, r⟩
theorem RC.there (r : RC K T α F cs H) {a : Addr} (h : a ∈ α) : ∃ o, H a = some o := by
  obtain ⟨k, hk, e⟩ := List.mem_iff_getElem.mp h
  have h2 : k < cs.length := by rw [← r.len]; exact hk
  exact (r.ok k a cs[k] (by rw [List.getElem?_eq_getElem hk, e]) (List.getElem?_eq_getElem h2)).some_of
theorem RC.new_out (r : RC K T α F cs H) {p : Addr} (h : H p = none) : F p = none ∧ p ∉ α := by
  refine ⟨r.same.free h, fun m => ?_⟩
  obtain ⟨o, e⟩ := r.there m
  rw [h] at e
  cases e
theorem Nx.refl (α : List Addr) (F H : Hp) : Nx α F H α F H := ⟨Lt.refl α F, fun _ _ h h1 h2 => ⟨h, h1, h2⟩, fun _ h => h⟩
theorem Nx.trans {α α1 α2 : List Addr} {F F1 F2 H H1 H2 : Hp} (a : Nx α F H α1 F1 H1) (b : Nx α1 F1 H1 α2 F2 H2) : Nx α F H α2 F2 H2 :=
  ⟨a.toLt.trans b.toLt, fun x o h h1 h2 => by
    obtain ⟨q, q1, q2⟩ := a.fr x o h h1 h2
    exact b.fr x o q q1 q2, fun x h => a.dom x (b.dom x h)⟩
theorem RC.ground (r : RC K T α F cs H) {p : Addr} {o : HO} (h : H p = none) : RC K T α (upd F p o) cs (upd H p o) ∧ Nx α F H α (upd F p o) (upd H p o) := by
  obtain ⟨hf, ha⟩ := r.new_out h
  have lt : Lt α F α (upd F p o) := ⟨List.prefix_rfl, FLe.of_same fun b u e => by rw [upd_ne (ne_of_none e hf)]; exact e⟩
  refine ⟨⟨fun b u e => ?_, r.len, r.nd, fun a m => ?_, fun k a c h1 h2 => ?_⟩, ⟨lt, fun b u e h1 h2 => ?_, fun b e => ?_⟩⟩
  rotate_left 3
  · have hb := ne_of_none e h
    rw [upd_ne hb, upd_ne hb]
    exact ⟨e, h1, h2⟩
  · by_cases hb : b = p
    · subst hb
      exact h
    · rw [upd_ne hb] at e
      exact e
  · by_cases hb : b = p
    · subst hb
      rw [upd_same] at e ⊢
      exact e
    · rw [upd_ne hb] at e ⊢
      exact r.same _ _ e
  · rw [upd_ne (show a ≠ p from fun z => by subst z; exact ha m)]
    exact r.out a m
  · refine ((r.ok k a c h1 h2).mono lt).heap ?_
    exact upd_ne fun z => ha (z ▸ List.mem_of_getElem? h1)
theorem RC.ground' {α0 : List Addr} {F0 H0 : Hp} (r : RC K T α F cs H) (nx : Nx α0 F0 H0 α F H) {p : Addr} {o : HO} (h0 : H0 p = none) (h : H p = some o) (hf : F p = none) (ha : p ∉ α) : RC K T α (upd F p o) cs H ∧ Lt α F α (upd F p o) ∧ Nx α0 F0 H0 α (upd F p o) H := by
  have lt : Lt α F α (upd F p o) := ⟨List.prefix_rfl, FLe.of_same fun b u e => by rw [upd_ne (ne_of_none e hf)]; exact e⟩
  refine ⟨⟨fun b u e => ?_, r.len, r.nd, fun a m => ?_, fun k a c h1 h2 => ?_⟩, lt, ⟨nx.toLt.trans lt, fun b u e h1 h2 => ?_, nx.dom⟩⟩
  rotate_left 3
  · obtain ⟨q, q1, q2⟩ := nx.fr b u e h1 h2
    rw [upd_ne (ne_of_none e h0)]
    exact ⟨q, q1, q2⟩
  · by_cases hb : b = p
    · subst hb
      rw [upd_same] at e
      rw [h]
      exact e
    · rw [upd_ne hb] at e
      exact r.same _ _ e
  · rw [upd_ne (show a ≠ p from fun z => by subst z; exact ha m)]
    exact r.out a m
  · exact (r.ok k a c h1 h2).mono lt
theorem app_pre (α : List Addr) (F : Hp) (p : Addr) : Lt α F (α ++ [p]) F := ⟨List.prefix_append _ _, FLe.refl F⟩
theorem RC.push {α0 : List Addr} {F0 H0 : Hp} (r : RC K T α F cs H) (nx : Nx α0 F0 H0 α F H) {p : Addr} {c : Mi.Cell} (h0 : H0 p = none) (hf : F p = none) (ha : p ∉ α) (h : COk K T α F H p c) : RC K T (α ++ [p]) F (cs ++ [c]) H ∧ Nx α0 F0 H0 (α ++ [p]) F H := by
  refine ⟨?_, ⟨nx.toLt.trans (app_pre α F p), fun b u e h1 h2 => ?_, nx.dom⟩⟩
  rotate_left 1
  · obtain ⟨q, q1, q2⟩ := nx.fr b u e h1 h2
    refine ⟨q, q1, fun m => ?_⟩
    rcases List.mem_append.mp m with m | m
    · exact q2 m
    · exact ne_of_none e h0 (List.mem_singleton.mp m)
  refine ⟨r.same, by simp [r.len], ?_, fun a m => ?_, fun k a c' h1 h2 => ?_⟩
  · refine List.nodup_append.mpr ⟨r.nd, by simp, fun a ha' b hb e => ?_⟩
    subst e
    exact ha (by rw [← List.mem_singleton.mp hb]; exact ha')
  · rcases List.mem_append.mp m with m | m
    · exact r.out a m
    · rw [List.mem_singleton.mp m]
      exact hf
  · by_cases hk : k < α.length
    · rw [List.getElem?_append_left hk] at h1
      rw [List.getElem?_append_left (by rw [← r.len]; exact hk)] at h2
      exact (r.ok k a c' h1 h2).mono (app_pre α F p)
    · have hl := (List.getElem?_eq_some_iff.mp h1).1
      rw [List.length_append, List.length_singleton] at hl
      have hk' : k = α.length := by omega
      subst hk'
      rw [List.getElem?_append_right (Nat.le_refl _), Nat.sub_self] at h1
      rw [r.len, List.getElem?_append_right (Nat.le_refl _), Nat.sub_self] at h2
      cases h1
      cases h2
      exact h.mono (app_pre α F p)
theorem RC.write (r : RC K T α F cs H) {k : Nat} {a : Addr} {c : Mi.Cell} {o : HO} (ha : α[k]? = some a) (h : COk K T α F (upd H a o) a c) : RC K T α F (cs.set k c) (upd H a o) ∧ Nx α F H α F (upd H a o) := by
  have hm : a ∈ α := List.mem_of_getElem? ha
  have hk := (List.getElem?_eq_some_iff.mp ha).1
  refine ⟨?_, ⟨Lt.refl α F, fun b u e h1 h2 => ?_, fun b e => ?_⟩⟩
  rotate_left 1
  · rw [upd_ne (show b ≠ a from fun z => by subst z; exact h2 hm)]
    exact ⟨e, h1, h2⟩
  · by_cases hb : b = a
    · subst hb
      rw [upd_same] at e
      cases e
    · rw [upd_ne hb] at e
      exact e
  refine ⟨fun b u e => ?_, by simp [r.len], r.nd, r.out, fun j b c' h1 h2 => ?_⟩
  · have : b ≠ a := fun z => by
      subst z
      rw [r.out b hm] at e
      cases e
    rw [upd_ne this]
    exact r.same _ _ e
  · by_cases hj : k = j
    · subst hj
      rw [ha] at h1
      cases h1
      rw [List.getElem?_set_self (by rw [← r.len]; exact hk)] at h2
      cases h2
      exact h
    · rw [List.getElem?_set_ne hj] at h2
      refine (r.ok j b c' h1 h2).heap (upd_ne fun z => hj ?_)
      subst z
      exact nodup_ix' r.nd ha h1
where
  nodup_ix' {l : List Addr} (hN : l.Nodup) {i j : Nat} {x : Addr} (a : l[i]? = some x) (b : l[j]? = some x) : i = j := by
    obtain ⟨h1, e1⟩ := List.getElem?_eq_some_iff.mp a
    obtain ⟨h2, e2⟩ := List.getElem?_eq_some_iff.mp b
    exact (List.getElem_inj hN).mp (e1.trans e2.symm)
theorem RC.get (r : RC K T α F cs H) {k : Nat} {c : Mi.Cell} (h : cs[k]? = some c) : ∃ a, α[k]? = some a ∧ COk K T α F H a c := by
  have hk : k < α.length := by rw [r.len]; exact (List.getElem?_eq_some_iff.mp h).1
  exact ⟨α[k], List.getElem?_eq_getElem hk, r.ok k _ c (List.getElem?_eq_getElem hk) h⟩
end

section
variable (K : PySem.W.Frag) (T : Tab) (W : WX)
def Out {A : Type} (σ : L2.St) (α : List Addr) (F H : Hp) (m : Option (Mi.R A)) (k : List Addr → Hp → Mi.Cs → Hp → A → Prop) : Prop :=
  match m with
  | none => False
  | some (.v a cs) => ∀ α' F' H', Nx α F H α' F' H' → RC K T α' F' cs H' → k α' F' cs H' a
  | some (.x c cs) => ∀ α' F' H' C nm, Nx α F H α' F' H' → RC K T α' F' cs H' → T c = some (C, nm) → W (.ref C) none σ H'
end
section
variable {K : PySem.W.Frag} {T : Tab} {W : WX} {σ : L2.St} {α α' : List Addr} {F F' H H' : Hp} {cs : Mi.Cs} {A B : Type}
theorem Out.mono {m : Option (Mi.R A)} {k k' : List Addr → Hp → Mi.Cs → Hp → A → Prop} (h : Out K T W σ α F H m k) (hk : ∀ α' F' cs H' a, Nx α F H α' F' H' → RC K T α' F' cs H' → k α' F' cs H' a → k' α' F' cs H' a) : Out K T W σ α F H m k' := by
  match m, h with
  | some (.v a cs), h => exact fun α' F' H' lt rc => hk _ _ _ _ _ lt rc (h α' F' H' lt rc)
  | some (.x c cs), h => exact h
theorem Out.later {m : Option (Mi.R A)} {k : List Addr → Hp → Mi.Cs → Hp → A → Prop} (lt : Nx α F H α' F' H') (h : Out K T W σ α F H m k) : Out K T W σ α' F' H' m k := by
  match m, h with
  | some (.v a cs), h => exact fun α'' F'' H'' lt' rc => h α'' F'' H'' (lt.trans lt') rc
  | some (.x c cs), h => exact fun α'' F'' H'' C nm lt' rc t => h α'' F'' H'' C nm (lt.trans lt') rc t
theorem Out.bnd {m : Option (Mi.R A)} {f : A → Mi.Cs → Option (Mi.R B)} {k : List Addr → Hp → Mi.Cs → Hp → B → Prop} (h : Out K T W σ α F H (Mi.bnd m f) k) :
    Out K T W σ α F H m fun α1 F1 cs1 H1 a => Out K T W σ α1 F1 H1 (f a cs1) k := by
  match m, h with
  | some (.v a cs), h => exact fun α' F' H' lt rc => Out.later lt h
  | some (.x c cs), h => exact h
  | none, h => exact h.elim
theorem Out.out {m : Option A} {k : List Addr → Hp → Mi.Cs → Hp → A → Prop} (h : Out K T W σ α F H (Mi.out m cs) k) (rc : RC K T α F cs H) : ∃ a, m = some a ∧ k α F cs H a := by
  cases m with
  | none => exact h.elim
  | some a => exact ⟨a, rfl, h α F H (Nx.refl _ _ _) rc⟩
theorem Out.v {a : A} {k : List Addr → Hp → Mi.Cs → Hp → A → Prop} (h : Out K T W σ α F H (some (.v a cs)) k) (lt : Nx α F H α' F' H') (rc : RC K T α' F' cs H') : k α' F' cs H' a := h α' F' H' lt rc
end

section
variable (K : PySem.W.Frag) (T : Tab) (W : WX)
def MV (e : Mi.E) : TE := fun σ H Q => ∃ α F env cs, RC K T α F cs H ∧ Ev K T α F env σ ∧ Out K T W σ α F H (e env cs) fun α' F' _ H' d => ∀ v, Rp K T α' F' d v → Q v H'
def MT (e : Mi.E) : TT := fun σ H Q => ∃ α F env cs, RC K T α F cs H ∧ Ev K T α F env σ ∧ Out K T W σ α F H (e env cs) fun _ _ _ H' d => ∃ b, d = .bl b ∧ Q b H'
def MA (l : Mi.EL) : TA := fun σ H Q => ∃ α F env cs, RC K T α F cs H ∧ Ev K T α F env σ ∧ Out K T W σ α F H (l env cs) fun α' F' _ H' ds => ∀ vs, Rps K T α' F' ds vs → Q vs H'
def ML (l : Mi.EL) : TE := fun σ H Q => ∃ α F env cs, RC K T α F cs H ∧ Ev K T α F env σ ∧ Out K T W σ α F H (l env cs) fun α' F' _ H' ds => ∀ p vs, H p = none → H' p = some (.lst vs) → F' p = none → p ∉ α' →
  Rps K T α' F' ds vs → Q (.ref p) H'
end
theorem PE.imp {X : Cx} {e : Expr} {t t' : TE} (h : PE X e t) (i : ∀ σ H Q, t' σ H Q → t σ H Q) : PE X e t' := ⟨fun pins s σ H Q I q => h.run pins s σ H Q I (i σ H Q q)⟩
theorem PT.imp {X : Cx} {e : Expr} {t t' : TT} (h : PT X e t) (i : ∀ σ H Q, t' σ H Q → t σ H Q) : PT X e t' := ⟨fun pins s σ H Q I q => h.run pins s σ H Q I (i σ H Q q)⟩
theorem PW.imp {X : Cx} {e : Expr} {t t' : TT} (h : PW X e t) (i : ∀ σ H Q, t' σ H Q → t σ H Q) : PW X e t' := ⟨fun w pins s σ H Q I q => h.run w pins s σ H Q I (i σ H Q q)⟩
theorem PA.imp {X : Cx} {e : List Expr} {t t' : TA} (h : PA X e t) (i : ∀ σ H Q, t' σ H Q → t σ H Q) : PA X e t' := ⟨fun pos pins s σ H Q I q => h.run pos pins s σ H Q I (i σ H Q q)⟩
theorem PS.imp {X : Cx} {e : Stmt} {t t' : TS} (h : PS X e t) (i : ∀ D σ H, t' D σ H → t D σ H) : PS X e t' := ⟨fun pins s σ H D I q => h.run pins s σ H D I (i D σ H q)⟩
theorem PSs.imp {X : Cx} {e : List Stmt} {t t' : TS} (h : PSs X e t) (i : ∀ D σ H, t' D σ H → t D σ H) : PSs X e t' := ⟨fun pins s σ H D I q => h.run pins s σ H D I (i D σ H q)⟩

section
variable {X : Cx} {T : Tab} {W : WX} {a b c : Expr} {ea eb ec : Mi.E} {pos : Pos}
def Op2 (K : PySem.W.Frag) (T : Tab) (r : R2) (op : Mi.Cs → Mi.D → Mi.D → Option Mi.D) : Prop := ∀ α F cs H x y z v w, RC K T α F cs H → Rp K T α F x v → Rp K T α F y w → op cs x y = some z →
  ∀ Q : VK, (∀ α' F' H' u, Nx α F H α' F' H' → RC K T α' F' cs H' → Rp K T α' F' z u → Q u H') → r v w H Q
theorem mv_op {r : R2} {op : Mi.Cs → Mi.D → Mi.D → Option Mi.D} {K : PySem.W.Frag} (hs : Op2 K T r op) (σ : L2.St) (H : Hp) (Q : VK) (h : MV K T W (Mi.e2 op ea eb) σ H Q) : tOp r (MV K T W ea) (MV K T W eb) σ H Q := by
  obtain ⟨α, F, env, cs, rc, ev, h⟩ := h
  refine ⟨α, F, env, cs, rc, ev, h.bnd.mono fun α1 F1 cs1 H1 x lt1 rc1 o1 v r1 => ?_⟩
  refine ⟨α1, F1, env, cs1, rc1, ev.mono lt1.toLt, o1.bnd.mono fun α2 F2 cs2 H2 y lt2 rc2 o2 w r2 => ?_⟩
  obtain ⟨z, e, _⟩ := o2.out rc2
  rw [e] at o2
  exact hs α2 F2 cs2 H2 x y z v w rc2 (Rp.mono lt2.toLt _ _ r1) r2 e Q fun α3 F3 H3 u lt3 rc3 r3 => o2.v lt3 rc3 u r3
def Op1 (K : PySem.W.Frag) (T : Tab) (r : V → Hp → VK → Prop) (op : Mi.Cs → Mi.D → Option Mi.D) : Prop := ∀ α F cs H x z v, RC K T α F cs H → Rp K T α F x v → op cs x = some z →
  ∀ Q : VK, (∀ α' F' H' u, Nx α F H α' F' H' → RC K T α' F' cs H' → Rp K T α' F' z u → Q u H') → r v H Q
theorem mv_un {r : V → Hp → VK → Prop} {op : Mi.Cs → Mi.D → Option Mi.D} {K : PySem.W.Frag} (hs : Op1 K T r op) (σ : L2.St) (H : Hp) (Q : VK) (h : MV K T W (Mi.e1 op ea) σ H Q) : MV K T W ea σ H fun x H1 => r x H1 Q := by
  obtain ⟨α, F, env, cs, rc, ev, h⟩ := h
  refine ⟨α, F, env, cs, rc, ev, h.bnd.mono fun α1 F1 cs1 H1 x lt1 rc1 o1 v r1 => ?_⟩
  obtain ⟨z, e, _⟩ := o1.out rc1
  rw [e] at o1
  exact hs α1 F1 cs1 H1 x z v rc1 r1 e Q fun α3 F3 H3 u lt3 rc3 r3 => o1.v lt3 rc3 u r3

theorem br_var (i : Nat) {x : Str} (hv : Vis X.env.scope x) (hN : X.N[i]? = some x := by rfl) (hd : (x == ("__debug__" : Str)) = false := by decide) (hcd : (x == ("__classdict__" : Str)) = false := by decide) : PE X (.Name x pos) (MV X.K T W (Mi.eVar i)) := by
  refine PE.imp (pe_var hN hv hd hcd) fun σ H Q h => ?_
  obtain ⟨α, F, env, cs, rc, ev, h⟩ := h
  unfold Mi.eVar at h
  split at h
  · rename_i d e
    obtain ⟨v, h1, h2⟩ := ev.at_ i d e
    exact ⟨v, h1, h.v (Nx.refl _ _ _) rc v h2⟩
  · exact h.elim
theorem mv_c {K : PySem.W.Frag} {d : Mi.D} {v : V} (hv : ∀ α F, Rp K T α F d v) (σ : L2.St) (H : Hp) (Q : VK) (h : MV K T W (Mi.eC d) σ H Q) : tC v σ H Q := by
  obtain ⟨α, F, env, cs, rc, ev, h⟩ := h
  exact h.v (Nx.refl _ _ _) rc v (hv α F)
theorem br_int {i : Int} {j} : PE X (.Constant (.int i) j pos) (MV X.K T W (Mi.eC (.int i))) := PE.imp pe_int (mv_c (v := .int i) fun _ _ => rfl)
theorem br_bl {i : Bool} {j} : PE X (.Constant (.bool i) j pos) (MV X.K T W (Mi.eC (.bl i))) := PE.imp pe_bl (mv_c (v := .bl i) fun _ _ => rfl)
theorem br_non {j} : PE X (.Constant .none j pos) (MV X.K T W (Mi.eC .non)) := PE.imp pe_non (mv_c (v := .non) fun _ _ => rfl)
theorem br_str {x : Str} {j} : PE X (.Constant (.str x) j pos) (MV X.K T W (Mi.eC (.str x))) := PE.imp pe_str (mv_c (v := .str x) fun _ _ => rfl)
theorem br_gint {x : Str} {i : Int} {t : Tok} (hg : Gl X x) (hm : X.mg x = some (.int i t)) (hd : (x == ("__debug__" : Str)) = false := by decide) : PE X (.Name x pos) (MV X.K T W (Mi.eC (.int i))) :=
  PE.imp (pe_glob (v := .int i) hg hm ⟨t, rfl⟩ hd) (mv_c (v := .int i) fun _ _ => rfl)

theorem br_bin {op : Operator} {r : R2} {f : Mi.Cs → Mi.D → Mi.D → Option Mi.D} (ho : OpR X (binaryOp op) r) (hs : Op2 X.K T r f) (ha : PE X a (MV X.K T W ea)) (hb : PE X b (MV X.K T W eb)) : PE X (.BinOp a op b pos) (MV X.K T W (Mi.e2 f ea eb)) :=
  PE.imp (pe_op ho ha hb) (mv_op hs)
theorem br_cmp {op : CmpOp} {r : R2} {f : Mi.Cs → Mi.D → Mi.D → Option Mi.D} (ho : OpR X (compareOp op) r) (hs : Op2 X.K T r f) (ha : PE X a (MV X.K T W ea)) (hb : PE X b (MV X.K T W eb)) (hm : behindInMarks op b = false) :
    PE X (.Compare a [op] [b] pos) (MV X.K T W (Mi.e2 f ea eb)) := PE.imp (pe_cmpR ho ha hb hm) (mv_op hs)
theorem bt_cmp {op : CmpOp} {r : R2} {f : Mi.Cs → Mi.D → Mi.D → Option Mi.D} (ho : OpR X (compareOp op) r) (hs : Op2 X.K T r f) (ha : PE X a (MV X.K T W ea)) (hb : PE X b (MV X.K T W eb)) (hm : behindInMarks op b = false) :
    PT X (.Compare a [op] [b] pos) (MT X.K T W (Mi.e2 f ea eb)) := PT.imp (pt_cmpR ho ha hb hm) fun σ H Q h => by
  obtain ⟨α, F, env, cs, rc, ev, h⟩ := h
  refine mv_op hs σ H _ ⟨α, F, env, cs, rc, ev, h.mono fun α1 F1 cs1 H1 d _ _ q v r => ?_⟩
  obtain ⟨k, rfl, q⟩ := q
  exact ⟨k, r, q⟩
theorem br_un {op : UnaryOp} {r : V → Hp → VK → Prop} {f : Mi.Cs → Mi.D → Option Mi.D} (ho : UnR X (unaryOp op) r) (hs : Op1 X.K T r f) (ha : PE X a (MV X.K T W ea)) : PE X (.UnaryOp op a pos) (MV X.K T W (Mi.e1 f ea)) :=
  PE.imp (pe_un ho ha) (mv_un hs)

section
variable {K : PySem.W.Frag}
theorem o2_int {g : Int → Int → V} {r : Int → Int → Mi.D} {op : Mi.Cs → Mi.D → Mi.D → Option Mi.D} (h : ∀ cs x y z, op cs x y = some z → ∃ i j, x = .int i ∧ y = .int j ∧ z = r i j) (hg : ∀ α F i j, Rp K T α F (r i j) (g i j)) : Op2 K T (rI0 g) op := by
  intro α F cs H x y z v w rc rx ry e Q q
  obtain ⟨i, j, rfl, rfl, rfl⟩ := h cs x y z e
  exact ⟨i, j, rx, ry, q α F H _ (Nx.refl _ _ _) rc (hg α F i j)⟩
theorem o2_intC {C : Int → Int → Prop} {g : Int → Int → V} {r : Int → Int → Mi.D} {op : Mi.Cs → Mi.D → Mi.D → Option Mi.D} (h : ∀ cs x y z, op cs x y = some z → ∃ i j, x = .int i ∧ y = .int j ∧ z = r i j ∧ C i j) (hg : ∀ α F i j, Rp K T α F (r i j) (g i j)) : Op2 K T (rI C g) op := by
  intro α F cs H x y z v w rc rx ry e Q q
  obtain ⟨i, j, rfl, rfl, rfl, hc⟩ := h cs x y z e
  exact ⟨i, j, rx, ry, hc, q α F H _ (Nx.refl _ _ _) rc (hg α F i j)⟩
end
theorem o_add {K : PySem.W.Frag} : Op2 K T (rI0 fun i j => .int (i + j)) Mi.oAdd := o2_int (r := fun i j => .int (i + j)) (fun cs x y z h => by
  unfold Mi.oAdd at h; split at h
  · cases h; exact ⟨_, _, rfl, rfl, rfl⟩
  · cases h) fun _ _ _ _ => rfl
theorem o_sub {K : PySem.W.Frag} : Op2 K T (rI0 fun i j => .int (i - j)) Mi.oSub := o2_int (r := fun i j => .int (i - j)) (fun cs x y z h => by
  unfold Mi.oSub at h; split at h
  · cases h; exact ⟨_, _, rfl, rfl, rfl⟩
  · cases h) fun _ _ _ _ => rfl
theorem o_lt {K : PySem.W.Frag} : Op2 K T (rI0 fun i j => .bl (decide (i < j))) Mi.oLt := o2_int (r := fun i j => .bl (decide (i < j))) (fun cs x y z h => by
  unfold Mi.oLt at h; split at h
  · cases h; exact ⟨_, _, rfl, rfl, rfl⟩
  · cases h) fun _ _ _ _ => rfl
theorem o_le {K : PySem.W.Frag} : Op2 K T (rI0 fun i j => .bl (decide (i ≤ j))) Mi.oLe := o2_int (r := fun i j => .bl (decide (i ≤ j))) (fun cs x y z h => by
  unfold Mi.oLe at h; split at h
  · cases h; exact ⟨_, _, rfl, rfl, rfl⟩
  · cases h) fun _ _ _ _ => rfl
theorem o_gt {K : PySem.W.Frag} : Op2 K T (rI0 fun i j => .bl (decide (j < i))) Mi.oGt := o2_int (r := fun i j => .bl (decide (j < i))) (fun cs x y z h => by
  unfold Mi.oGt at h; split at h
  · cases h; exact ⟨_, _, rfl, rfl, rfl⟩
  · cases h) fun _ _ _ _ => rfl
theorem o_ge {K : PySem.W.Frag} : Op2 K T (rI0 fun i j => .bl (decide (j ≤ i))) Mi.oGe := o2_int (r := fun i j => .bl (decide (j ≤ i))) (fun cs x y z h => by
  unfold Mi.oGe at h; split at h
  · cases h; exact ⟨_, _, rfl, rfl, rfl⟩
  · cases h) fun _ _ _ _ => rfl
theorem o_mul {K : PySem.W.Frag} : Op2 K T (rI CMulW fun i j => .int (i * j)) Mi.oMul := o2_intC (r := fun i j => .int (i * j)) (fun cs x y z h => by
  unfold Mi.oMul at h; split at h
  · rename_i i j
    by_cases hc : i.natAbs.log2 + j.natAbs.log2 < 1000000
    · rw [if_pos hc] at h; cases h; exact ⟨_, _, rfl, rfl, rfl, hc⟩
    · rw [if_neg hc] at h; cases h
  · cases h) fun _ _ _ _ => rfl
theorem o_div {K : PySem.W.Frag} : Op2 K T (rI CDivW fun i j => .int (i / j)) Mi.oDiv := o2_intC (r := fun i j => .int (i / j)) (fun cs x y z h => by
  unfold Mi.oDiv at h; split at h
  · rename_i i j
    by_cases hc : 0 < j ∧ j.natAbs.log2 < 9000
    · rw [if_pos hc] at h; cases h; exact ⟨_, _, rfl, rfl, rfl, hc⟩
    · rw [if_neg hc] at h; cases h
  · cases h) fun _ _ _ _ => rfl
theorem o_mod {K : PySem.W.Frag} : Op2 K T (rI (fun _ j => 0 < j) fun i j => .int (i % j)) Mi.oMod := o2_intC (r := fun i j => .int (i % j)) (fun cs x y z h => by
  unfold Mi.oMod at h; split at h
  · rename_i i j
    by_cases hc : 0 < j
    · rw [if_pos hc] at h; cases h; exact ⟨_, _, rfl, rfl, rfl, hc⟩
    · rw [if_neg hc] at h; cases h
  · cases h) fun _ _ _ _ => rfl
theorem o_pow {K : PySem.W.Frag} : Op2 K T (rI CPow fun i j => .int (i ^ j.toNat)) Mi.oPow := o2_intC (r := fun i j => .int (i ^ j.toNat)) (fun cs x y z h => by
  unfold Mi.oPow at h; split at h
  · rename_i i j
    by_cases hc : 0 ≤ j ∧ j ≤ 1000000 ∧ i.natAbs < 2 ^ 64
    · rw [if_pos hc] at h; cases h; exact ⟨_, _, rfl, rfl, rfl, hc⟩
    · rw [if_neg hc] at h; cases h
  · cases h) fun _ _ _ _ => rfl
theorem scal_of {K : PySem.W.Frag} {α F x y v w} (h : Mi.scal x y = true) (rx : Rp K T α F x v) (ry : Rp K T α F y w) : L2.scal v w = true ∧ decide (v = w) = decide (x = y) := by
  cases x <;> cases y <;> simp only [Mi.scal, Bool.false_eq_true] at h
  · have e1 : v = .non := rx
    have e2 : w = .non := ry
    subst e1 e2
    exact ⟨rfl, by simp⟩
  · rename_i a b
    have e1 : v = .bl a := rx
    have e2 : w = .bl b := ry
    subst e1 e2
    exact ⟨rfl, by simp⟩
  · rename_i a b
    have e1 : v = .int a := rx
    have e2 : w = .int b := ry
    subst e1 e2
    exact ⟨rfl, by simp⟩
  · rename_i a b
    have e1 : v = .str a := rx
    have e2 : w = .str b := ry
    subst e1 e2
    exact ⟨rfl, by simp⟩
theorem o_eqS {K : PySem.W.Frag} : Op2 K T rEq Mi.oEqS := by
  intro α F cs H x y z v w rc rx ry e Q q
  unfold Mi.oEqS at e
  by_cases hc : Mi.scal x y = true
  · rw [if_pos hc] at e
    cases e
    obtain ⟨h1, h2⟩ := scal_of hc rx ry
    refine ⟨h1, q α F H _ (Nx.refl _ _ _) rc ?_⟩
    rw [h2]
    rfl
  · rw [if_neg hc] at e
    cases e
theorem o_neS {K : PySem.W.Frag} : Op2 K T rNe Mi.oNeS := by
  intro α F cs H x y z v w rc rx ry e Q q
  unfold Mi.oNeS at e
  by_cases hc : Mi.scal x y = true
  · rw [if_pos hc] at e
    cases e
    obtain ⟨h1, h2⟩ := scal_of hc rx ry
    refine ⟨h1, q α F H _ (Nx.refl _ _ _) rc ?_⟩
    rw [h2]
    rfl
  · rw [if_neg hc] at e
    cases e
theorem o_neg {K : PySem.W.Frag} : Op1 K T (rU fun i => .int (-i)) Mi.oNeg := by
  intro α F cs H x z v rc rx e Q q
  unfold Mi.oNeg at e
  split at e
  · cases e
    exact ⟨_, rx, q α F H _ (Nx.refl _ _ _) rc rfl⟩
  · cases e
end
end Br
end
section
set_option Elab.async false
set_option linter.all false
set_option maxRecDepth 100000
set_option maxHeartbeats 4000000
namespace Br
open PySem PySem.Spec PyProof.Rows L2

section
variable {K : PySem.W.Frag} {T : Tab} {α α' : List Addr} {F F' H H' : Hp} {cs cs' : Mi.Cs} {env : Mi.Env} {σ : L2.St}
theorem Rps.atI {ds : List Mi.D} {vs : List V} {i : Int} {d : Mi.D} (r : Rps K T α F ds vs) (h : Mi.atI ds i = some d) : ∃ v, L2.atI vs i = some v ∧ Rp K T α F d v := by
  have e : Mi.atI ds i = (L2.ixN ds.length i).bind fun j => ds[j]? := rfl
  rw [e, ← r.length] at h
  show ∃ v, ((L2.ixN vs.length i).bind fun j => vs[j]?) = some v ∧ _
  cases q : L2.ixN vs.length i with
  | none => rw [q] at h; cases h
  | some j =>
    rw [q] at h
    exact Rps.get r h
theorem Rps.ixN {ds : List Mi.D} {vs : List V} {i : Int} (r : Rps K T α F ds vs) : Mi.ixN ds.length i = L2.ixN vs.length i := by
  rw [← r.length]
  rfl
theorem Rps.cut {ds : List Mi.D} {vs : List V} {lo hi : Option Int} (r : Rps K T α F ds vs) : Rps K T α F (Mi.cut ds lo hi) (cutV vs lo hi) := by
  have e1 : ∀ n d o, Mi.sIx n d o = HT.sIx n d o := fun n d o => by cases o <;> rfl
  unfold Mi.cut cutV
  rw [e1, e1, r.length]
  exact (r.drop _).take _
theorem lstOf_of {x : Mi.D} {v : V} {xs : List Mi.D} (rc : RC K T α F cs H) (rx : Rp K T α F x v) (h : Mi.lstOf cs x = some xs) : ∃ a vs, v = .ref a ∧ SqL K H a vs ∧ Rps K T α F xs vs := by
  cases x <;> simp only [Mi.lstOf, reduceCtorEq] at h
  · obtain ⟨a, vs, e, s, q⟩ := rx
    cases h
    exact ⟨a, vs, e, .of (rc.same _ _ s), q⟩
  · rename_i k
    obtain ⟨a, ea, rfl⟩ := rx
    cases hc : cs[k]? with
    | none => rw [hc] at h; cases h
    | some c =>
      rw [hc] at h
      cases c <;> simp only [reduceCtorEq, Option.some.injEq] at h
      subst h
      obtain ⟨vs, e, q⟩ := rc.ok k a _ ea hc
      exact ⟨a, vs, rfl, .of e, q⟩
  · obtain ⟨a, vs, e, s, q⟩ := rx
    cases h
    exact ⟨a, vs, e, rc.same.seq s, q⟩
theorem ownOf_of {x : Mi.D} {v : V} {xs : List Mi.D} (rc : RC K T α F cs H) (rx : Rp K T α F x v) (h : Mi.ownOf cs x = some xs) : ∃ a vs, v = .ref a ∧ H a = some (.lst vs) ∧ Rps K T α F xs vs := by
  cases x <;> simp only [Mi.ownOf, reduceCtorEq] at h
  · obtain ⟨a, vs, e, s, q⟩ := rx
    cases h
    exact ⟨a, vs, e, rc.same _ _ s, q⟩
  · rename_i k
    obtain ⟨a, ea, rfl⟩ := rx
    cases hc : cs[k]? with
    | none => rw [hc] at h; cases h
    | some c =>
      rw [hc] at h
      cases c <;> simp only [reduceCtorEq, Option.some.injEq] at h
      subst h
      obtain ⟨vs, e, q⟩ := rc.ok k a _ ea hc
      exact ⟨a, vs, rfl, e, q⟩
theorem same_sqT {a : Addr} {xs : List V} (e : Same F H) (s : SqT K F a xs) : SqT K H a xs := by
  rcases s with (s | ⟨o, s⟩) | s
  · exact .inl (.inl (e _ _ s))
  · exact .inl (.inr ⟨o, e _ _ s⟩)
  · exact .inr s
theorem seqOf_of {x : Mi.D} {v : V} {xs : List Mi.D} (rc : RC K T α F cs H) (rx : Rp K T α F x v) (h : Mi.seqOf cs x = some xs) : ∃ a vs, v = .ref a ∧ (SqL K H a vs ∨ SqT K H a vs) ∧ Rps K T α F xs vs := by
  by_cases ht : ∃ ys, x = .tup ys
  · obtain ⟨ys, rfl⟩ := ht
    obtain ⟨a, vs, e, s, q⟩ := rx
    have e2 : ys = xs := Option.some.inj h
    subst e2
    exact ⟨a, vs, e, .inr (same_sqT rc.same s), q⟩
  · have h2 : Mi.lstOf cs x = some xs := by
      cases x <;> first | exact h | exact (ht ⟨_, rfl⟩).elim
    obtain ⟨a, vs, e, s, q⟩ := lstOf_of rc rx h2
    exact ⟨a, vs, e, .inl s, q⟩
theorem cellL_of {x : Mi.D} {v : V} {k : Nat} {xs : List Mi.D} (rc : RC K T α F cs H) (rx : Rp K T α F x v) (h : Mi.cellL cs x = some (k, xs)) : ∃ a vs, v = .ref a ∧ α[k]? = some a ∧ H a = some (.lst vs) ∧ Rps K T α F xs vs := by
  cases x <;> simp only [Mi.cellL, reduceCtorEq] at h
  rename_i k'
  obtain ⟨a, ea, rfl⟩ := rx
  cases hc : cs[k']? with
  | none => rw [hc] at h; cases h
  | some c =>
    rw [hc] at h
    cases c <;> simp only [reduceCtorEq, Option.some.injEq, Prod.mk.injEq] at h
    obtain ⟨rfl, rfl⟩ := h
    obtain ⟨vs, e, q⟩ := rc.ok _ a _ ea hc
    exact ⟨a, vs, rfl, ea, e, q⟩
theorem Rps.mono' {ds : List Mi.D} {vs : List V} (r : Rps K T α F ds vs) (h : Lt α F α' F') : Rps K T α' F' ds vs := Rps.mono h ds vs r
theorem Nx.alloc {p : Addr} {o : HO} (h : H p = none) : Nx α F H α F (upd H p o) := ⟨Lt.refl _ _, fun b u e h1 h2 => by rw [upd_ne (ne_of_none e h)]; exact ⟨e, h1, h2⟩, fun b e => by
  by_cases hb : b = p
  · subst hb
    exact h
  · rw [upd_ne hb] at e
    exact e⟩
theorem Out.bnd' {W : WX} {A B : Type} {m : Option (Mi.R A)} {f : A → Mi.Cs → Option (Mi.R B)} {k : List Addr → Hp → Mi.Cs → Hp → B → Prop} {k' : List Addr → Hp → Mi.Cs → Hp → A → Prop} (h : Out K T W σ α F H (Mi.bnd m f) k)
    (hk : ∀ α1 F1 cs1 H1 a, Nx α F H α1 F1 H1 → RC K T α1 F1 cs1 H1 → Out K T W σ α F H (f a cs1) k → k' α1 F1 cs1 H1 a) : Out K T W σ α F H m k' := by
  match m, h with
  | some (.v a cs), h => exact fun α' F' H' lt rc => hk _ _ _ _ _ lt rc h
  | some (.x c cs), h => exact h
  | none, h => exact h.elim
theorem RC.alloc (r : RC K T α F cs H) {p : Addr} {o : HO} (h : H p = none) : RC K T α F cs (upd H p o) := by
  obtain ⟨hf, ha⟩ := r.new_out h
  refine ⟨fun b u e => ?_, r.len, r.nd, r.out, fun k a c h1 h2 => ?_⟩
  · rw [upd_ne (ne_of_none e hf)]
    exact r.same _ _ e
  · refine (r.ok k a c h1 h2).heap (upd_ne fun z => ha ?_)
    subst z
    exact List.mem_of_getElem? h1
end
theorem size_eq : Mi.SIZE = sizeLine := by decide

section
variable {X : Cx} {T : Tab} {W : WX} {a b c : Expr} {ea eb ec : Mi.E} {l : Mi.EL} {es : List Expr} {pos : Pos}
theorem br_anil : PA X [] (MA X.K T W Mi.aNil) := PA.imp pa_nil fun σ H Q h => by
  obtain ⟨α, F, env, cs, rc, ev, h⟩ := h
  exact h.v (Nx.refl _ _ _) rc [] rfl
theorem br_acons {e : Expr} (he : PE X e (MV X.K T W ea)) (hr : PA X es (MA X.K T W l)) (hs : starEach (e :: es) X.env = (false, eval e X.env) :: starEach es X.env := by rfl) : PA X (e :: es) (MA X.K T W (Mi.aCons ea l)) :=
  PA.imp (pa_cons he hr hs) fun σ H Q h => by
    obtain ⟨α, F, env, cs, rc, ev, h⟩ := h
    refine ⟨α, F, env, cs, rc, ev, h.bnd.mono fun α1 F1 cs1 H1 x lt1 rc1 o1 v r1 => ?_⟩
    refine ⟨α1, F1, env, cs1, rc1, ev.mono lt1.toLt, o1.bnd.mono fun α2 F2 cs2 H2 xs lt2 rc2 o2 vs r2 => ?_⟩
    exact o2.v (Nx.refl _ _ _) rc2 (v :: vs) ⟨v, vs, rfl, Rp.mono lt2.toLt _ _ r1, r2⟩
theorem br_lst (h : PA X es (MA X.K T W l)) : PE X (.List es pos) (ML X.K T W (Mi.lDisp l)) := PE.imp (pe_lst h) fun σ H Q h => by
  obtain ⟨α, F, env, cs, rc, ev, h⟩ := h
  refine ⟨α, F, env, cs, rc, ev, h.bnd.mono fun α1 F1 cs1 H1 xs lt1 rc1 o1 vs r1 => ?_⟩
  by_cases hl : xs.length ≤ Mi.SIZE
  · rw [if_pos hl] at o1
    refine ⟨by rw [r1.length, ← size_eq]; exact hl, fun p hp => ?_⟩
    obtain ⟨hf, ha⟩ := rc1.new_out hp
    exact o1.v (Nx.alloc hp) (rc1.alloc hp) p vs (lt1.dom p hp) upd_same hf ha r1
  · rw [if_neg hl] at o1
    exact o1.elim
theorem br_tup {k} (h : PA X es (MA X.K T W l)) : PE X (.Tuple es k pos) (MV X.K T W (Mi.eTup l)) := PE.imp (pe_tup h) fun σ H Q h => by
  obtain ⟨α, F, env, cs, rc, ev, h⟩ := h
  refine ⟨α, F, env, cs, rc, ev, h.bnd.mono fun α1 F1 cs1 H1 xs lt1 rc1 o1 vs r1 => ?_⟩
  by_cases hl : xs.length ≤ Mi.SIZE
  · rw [if_pos hl] at o1
    refine ⟨by rw [r1.length, ← size_eq]; exact hl, fun p hp => ?_⟩
    obtain ⟨rc2, lt2⟩ := rc1.ground (o := .tup vs) hp
    exact o1.v lt2 rc2 (.ref p) ⟨p, vs, rfl, .of upd_same, r1.mono' lt2.toLt⟩
  · rw [if_neg hl] at o1
    exact o1.elim
theorem br_L {e : Expr} (h : PE X e (ML X.K T W l)) : PE X e (MV X.K T W (Mi.eL l)) := PE.imp h fun σ H Q h => by
  obtain ⟨α, F, env, cs, rc, ev, h⟩ := h
  refine ⟨α, F, env, cs, rc, ev, h.bnd' fun α1 F1 cs1 H1 xs lt1 rc1 o1 p vs h0 hp hf ha r1 => ?_⟩
  obtain ⟨rc3, lt3, nx3⟩ := rc1.ground' lt1 h0 hp hf ha
  exact o1 _ _ _ nx3 rc3 (.ref p) ⟨p, vs, rfl, upd_same, r1.mono' lt3⟩
theorem br_Lc {e : Expr} (h : PE X e (ML X.K T W l)) : PE X e (MV X.K T W (Mi.eLc l)) := PE.imp h fun σ H Q h => by
  obtain ⟨α, F, env, cs, rc, ev, h⟩ := h
  refine ⟨α, F, env, cs, rc, ev, h.bnd' fun α1 F1 cs1 H1 xs lt1 rc1 o1 p vs h0 hp hf ha r1 => ?_⟩
  obtain ⟨rc3, nx3⟩ := rc1.push lt1 h0 hf ha (c := .lst xs) ⟨vs, hp, r1⟩
  refine o1 _ _ _ nx3 rc3 (.ref p) ⟨p, ?_, rfl⟩
  rw [← rc1.len, List.getElem?_append_right (Nat.le_refl _), Nat.sub_self]
  rfl
theorem o_ix {K : PySem.W.Frag} : Op2 K T (fun x y H Q => rIxL K x y H Q ∨ rIxT K x y H Q) Mi.oIx := by
  intro α F cs H x y z v w rc rx ry e Q q
  unfold Mi.oIx at e
  split at e
  · rename_i i
    have ew : w = .int i := ry
    subst ew
    cases hs : Mi.seqOf cs x with
    | none => rw [hs] at e; cases e
    | some xs =>
      rw [hs] at e
      obtain ⟨p, vs, rfl, hq, r⟩ := seqOf_of rc rx hs
      obtain ⟨u, e1, r1⟩ := r.atI e
      have fin := q α F H u (Nx.refl _ _ _) rc r1
      rcases hq with hq | hq
      · exact .inl ⟨p, vs, i, u, rfl, rfl, hq, e1, fin⟩
      · exact .inr ⟨p, vs, i, u, rfl, rfl, hq, e1, fin⟩
  · cases e
theorem br_ix (ha : PE X a (MV X.K T W ea)) (hb : PE X b (MV X.K T W eb)) (hs : PlainIx b) : PE X (.Subscript a b pos) (MV X.K T W (Mi.e2 Mi.oIx ea eb)) := PE.imp (pe_ix (IxR.or ix_list ix_tup) ha hb hs) (mv_op o_ix)

section
variable {x : Str} {p : Pos} {id : String} {r : List V → Hp → VK → Prop} {f1 : Mi.Cs → Mi.D → Option Mi.D} {f2 : Mi.Cs → Mi.D → Mi.D → Option Mi.D}
theorem bB_1 (hc : CallR X (.builtin id) r) (hs : Op1 X.K T (fun v H Q => r [v] H Q) f1) (hg : Gl X x) (hm : X.mg x = none) (hv : bootBuiltins x = some (.builtin id)) (ha : PE X a (MV X.K T W ea)) (hn : x ≠ "__name__" := by decide) (hd : (x == ("__debug__" : Str)) = false := by decide)
    (na : starEach [a] X.env = (false, eval a X.env) :: starEach [] X.env := by rfl) : PE X (.Call (.Name x p) [a] [] pos) (MV X.K T W (Mi.e1 f1 ea)) := by
  refine PE.imp (pe_callB hc hg hm hv (pa_cons ha pa_nil na) hn hd ?_) fun σ H Q h => ?_
  · exact na
  · exact mv_un (r := fun v H Q => r [v] H Q) hs σ H Q h
theorem bB_2 (hc : CallR X (.builtin id) r) (hs : Op2 X.K T (fun v w H Q => r [v, w] H Q) f2) (hg : Gl X x) (hm : X.mg x = none) (hv : bootBuiltins x = some (.builtin id)) (ha : PE X a (MV X.K T W ea)) (hb : PE X b (MV X.K T W eb)) (hn : x ≠ "__name__" := by decide) (hd : (x == ("__debug__" : Str)) = false := by decide)
    (na : starEach [a, b] X.env = (false, eval a X.env) :: starEach [b] X.env := by rfl) (nb : starEach [b] X.env = (false, eval b X.env) :: starEach [] X.env := by rfl) (npl : (backTo pos (starEach [b] X.env)).any (·.1) = false := by rfl) :
    PE X (.Call (.Name x p) [a, b] [] pos) (MV X.K T W (Mi.e2 f2 ea eb)) := by
  refine PE.imp (pe_callB hc hg hm hv (pa_cons ha (pa_cons hb pa_nil nb) na) hn hd na npl) fun σ H Q h => ?_
  · exact mv_op (r := fun v w H Q => r [v, w] H Q) hs σ H Q h
theorem bT_1 (hc : CallR X (.type id) r) (hs : Op1 X.K T (fun v H Q => r [v] H Q) f1) (hg : Gl X x) (hm : X.mg x = none) (hv : bootBuiltins x = some (.type id)) (ha : PE X a (MV X.K T W ea)) (hn : x ≠ "__name__" := by decide) (hd : (x == ("__debug__" : Str)) = false := by decide)
    (na : starEach [a] X.env = (false, eval a X.env) :: starEach [] X.env := by rfl) : PE X (.Call (.Name x p) [a] [] pos) (MV X.K T W (Mi.e1 f1 ea)) := by
  refine PE.imp (pe_callTy hc hg hm hv (pa_cons ha pa_nil na) hn hd ?_) fun σ H Q h => ?_
  · exact na
  · exact mv_un (r := fun v H Q => r [v] H Q) hs σ H Q h
end

section
variable {K : PySem.W.Frag}
theorem o_abs : Op1 K T (fun v H Q => ∃ i, [v] = [V.int i] ∧ Q (.int (if i < 0 then -i else i)) H) Mi.oAbs := by
  intro α F cs H x z v rc rx e Q q
  unfold Mi.oAbs at e
  split at e
  · cases e
    have ev : v = .int _ := rx
    subst ev
    exact ⟨_, rfl, q α F H _ (Nx.refl _ _ _) rc rfl⟩
  · cases e
theorem o_int1 : Op1 K T (fun v H Q => (∃ i, [v] = [V.int i] ∧ Q (.int i) H) ∨ ∃ k, [v] = [V.bl k] ∧ Q (.int (if k then 1 else 0)) H) Mi.oInt := by
  intro α F cs H x z v rc rx e Q q
  unfold Mi.oInt at e
  split at e
  · cases e
    have ev : v = .int _ := rx
    subst ev
    exact .inl ⟨_, rfl, q α F H _ (Nx.refl _ _ _) rc rfl⟩
  · cases e
    have ev : v = .bl _ := rx
    subst ev
    exact .inr ⟨_, rfl, q α F H _ (Nx.refl _ _ _) rc rfl⟩
  · cases e
theorem o_len : Op1 K T (fun v H Q => ∃ p ys, [v] = [V.ref p] ∧ (SqL K H p ys ∨ SqT K H p ys) ∧ Q (.int ys.length) H) Mi.oLen := by
  intro α F cs H x z v rc rx e Q q
  unfold Mi.oLen at e
  cases hs : Mi.seqOf cs x with
  | none => rw [hs] at e; cases e
  | some xs =>
    rw [hs] at e
    cases e
    obtain ⟨p, vs, rfl, hq, r⟩ := seqOf_of rc rx hs
    refine ⟨p, vs, rfl, hq, q α F H _ (Nx.refl _ _ _) rc ?_⟩
    rw [r.length]
    rfl
theorem o_tuple : Op1 K T (fun v H Q => ∃ p ys, [v] = [V.ref p] ∧ ((SqL K H p ys ∧ ∀ l, H l = none → Q (.ref l) (upd H l (.tup ys))) ∨ (SqT K H p ys ∧ Q (.ref p) H))) Mi.oTuple := by
  intro α F cs H x z v rc rx e Q q
  unfold Mi.oTuple at e
  cases hs : Mi.seqOf cs x with
  | none => rw [hs] at e; cases e
  | some xs =>
    rw [hs] at e
    cases e
    obtain ⟨p, vs, rfl, hq, r⟩ := seqOf_of rc rx hs
    by_cases ht : ∃ ys, x = .tup ys
    · obtain ⟨ys, rfl⟩ := ht
      obtain ⟨a, vs', e', s, q'⟩ := rx
      have e2 : ys = xs := Option.some.inj hs
      subst e2
      cases e'
      exact ⟨p, vs', rfl, .inr ⟨same_sqT rc.same s, q α F H _ (Nx.refl _ _ _) rc ⟨p, vs', rfl, s, q'⟩⟩⟩
    · have h2 : Mi.lstOf cs x = some xs := by
        cases x <;> first | exact hs | exact (ht ⟨_, rfl⟩).elim
      obtain ⟨p', vs', e', s, q'⟩ := lstOf_of rc rx h2
      cases e'
      refine ⟨p, vs', rfl, .inl ⟨s, fun l hl => ?_⟩⟩
      obtain ⟨rc2, lt2⟩ := rc.ground (o := .tup vs') hl
      exact q α _ _ _ lt2 rc2 ⟨l, vs', rfl, .of upd_same, q'.mono' lt2.toLt⟩
end
theorem br_list {p : Pos} (hg : Gl X "list") (hm : X.mg "list" = none) (ha : PE X a (MV X.K T W ea)) (na : starEach [a] X.env = (false, eval a X.env) :: starEach [] X.env := by rfl) : PE X (.Call (.Name "list" p) [a] [] pos) (ML X.K T W (Mi.lList ea)) := by
  refine PE.imp (pe_callTy call_list_of hg hm boot_list (pa_cons ha pa_nil na) (he := na)) fun σ H Q h => ?_
  obtain ⟨α, F, env, cs, rc, ev, h⟩ := h
  refine ⟨α, F, env, cs, rc, ev, h.bnd.mono fun α1 F1 cs1 H1 x lt1 rc1 o1 v r1 => ?_⟩
  obtain ⟨xs, e, _⟩ := o1.out rc1
  rw [e] at o1
  obtain ⟨p, vs, rfl, hq, r⟩ := seqOf_of rc1 r1 e
  refine ⟨p, vs, rfl, hq, fun l hl => ?_⟩
  obtain ⟨hf, ha⟩ := rc1.new_out hl
  exact o1.v (Nx.alloc hl) (rc1.alloc hl) l vs (lt1.dom l hl) upd_same hf ha r
theorem rps_rng {K : PySem.W.Frag} {α F} (lo hi : Int) : Rps K T α F (Mi.rng lo hi) (rgV lo hi) := by
  unfold Mi.rng rgV
  have e1 : (List.range (hi - lo).toNat).map (fun (k : Nat) => Mi.D.int (lo + (k : Int))) = ((List.range (hi - lo).toNat).map fun (k : Nat) => lo + (k : Int)).map Mi.D.int := by rw [List.map_map] <;> rfl
  have e2 : (List.range (hi - lo).toNat).map (fun (k : Nat) => V.int (lo + (k : Int))) = ((List.range (hi - lo).toNat).map fun (k : Nat) => lo + (k : Int)).map V.int := by rw [List.map_map] <;> rfl
  rw [e1, e2]
  exact Rps.of_ints _
theorem br_listRange {p p2 pos2 : Pos} (hc : X.calm = true) (hg : Gl X "list") (hm : X.mg "list" = none) (hg2 : Gl X "range") (hm2 : X.mg "range" = none) (ha : PE X a (MV X.K T W ea))
    (na : starEach [.Call (.Name "range" p2) [a] [] pos2] X.env = (false, eval (.Call (.Name "range" p2) [a] [] pos2) X.env) :: starEach [] X.env := by rfl) (na2 : starEach [a] X.env = (false, eval a X.env) :: starEach [] X.env := by rfl) :
    PE X (.Call (.Name "list" p) [.Call (.Name "range" p2) [a] [] pos2] [] pos) (ML X.K T W (Mi.lRange ea)) := by
  refine PE.imp (pe_listRg hc hg hm (prg_1 hg2 hm2 ha na2) na) fun σ H Q h => ?_
  obtain ⟨α, F, env, cs, rc, ev, h⟩ := h
  refine ⟨α, F, env, cs, rc, ev, h.bnd.mono fun α1 F1 cs1 H1 x lt1 rc1 o1 v r1 => ?_⟩
  obtain ⟨xs, e, _⟩ := o1.out rc1
  rw [e] at o1
  unfold Mi.rngOf at e
  split at e
  · rename_i n
    by_cases hn : 0 ≤ n ∧ n ≤ 16777216
    · rw [if_pos hn] at e
      cases e
      refine ⟨n, r1, RgOk.of_le (by omega) hn.2 (by omega) hn.1, fun l hl => ?_⟩
      obtain ⟨hf, ha⟩ := rc1.new_out hl
      exact o1.v (Nx.alloc hl) (rc1.alloc hl) l _ (lt1.dom l hl) upd_same hf ha (rps_rng 0 n)
    · rw [if_neg hn] at e
      cases e
  · cases e
end
end Br
end
section
set_option Elab.async false
set_option linter.all false
set_option maxRecDepth 100000
set_option maxHeartbeats 4000000
namespace Br
open PySem PySem.Spec PyProof.Rows L2

section
variable {X : Cx} {T : Tab} {W : WX} {a b c o : Expr} {ea eb ec : Mi.E} {l : Mi.EL} {es rest : List Expr} {pos apos cpos : Pos}
def OpM (K : PySem.W.Frag) (T : Tab) (r : V → List V → Hp → VK → Prop) (op : Mi.Cs → Mi.D → List Mi.D → Option (Mi.D × Mi.Cs)) : Prop := ∀ α F cs H x ys d cs' v vs, RC K T α F cs H → Rp K T α F x v → Rps K T α F ys vs → op cs x ys = some (d, cs') →
  ∀ Q : VK, (∀ α' F' H' u, Nx α F H α' F' H' → RC K T α' F' cs' H' → Rp K T α' F' d u → Q u H') → r v vs H Q
def OkM (K : PySem.W.Frag) (T : Tab) (Ty : String) (ok : Mi.Cs → Mi.D → Bool) : Prop := ∀ α F cs H x v, RC K T α F cs H → Rp K T α F x v → ok cs x = true → tyV K Ty v H
theorem mv_bm {K : PySem.W.Frag} {r : V → List V → Hp → VK → Prop} {Ty : String} {ok : Mi.Cs → Mi.D → Bool} {op : Mi.Cs → Mi.D → List Mi.D → Option (Mi.D × Mi.Cs)} (hk : OkM K T Ty ok) (hs : OpM K T r op) (σ : L2.St) (H : Hp) (Q : VK) (h : MV K T W (Mi.m1 ok op ea l) σ H Q) :
    tBM K Ty r (MV K T W ea) (MA K T W l) σ H Q := by
  obtain ⟨α, F, env, cs, rc, ev, h⟩ := h
  refine ⟨α, F, env, cs, rc, ev, h.bnd.mono fun α1 F1 cs1 H1 x lt1 rc1 o1 v r1 => ?_⟩
  by_cases hok : ok cs1 x = true
  · rw [if_pos hok] at o1
    refine ⟨hk _ _ _ _ _ _ rc1 r1 hok, α1, F1, env, cs1, rc1, ev.mono lt1.toLt, o1.bnd.mono fun α2 F2 cs2 H2 ys lt2 rc2 o2 vs r2 => ?_⟩
    cases e : op cs2 x ys with
    | none => rw [e] at o2; exact o2.elim
    | some p =>
      obtain ⟨d, cs3⟩ := p
      rw [e] at o2
      exact hs _ _ _ _ _ _ _ _ _ _ rc2 (Rp.mono lt2.toLt _ _ r1) r2 e Q fun α3 F3 H3 u lt3 rc3 r3 => o2.v lt3 rc3 u r3
  · rw [if_neg hok] at o1
    exact o1.elim
theorem ok_list {K : PySem.W.Frag} : OkM K T "list" Mi.isL := by
  intro α F cs H x v rc rx h
  unfold Mi.isL at h
  obtain ⟨xs, e⟩ := Option.isSome_iff_exists.mp h
  obtain ⟨a, vs, rfl, s, _⟩ := lstOf_of rc rx e
  exact .inl ⟨rfl, vs, s⟩
section
variable {K : PySem.W.Frag}
theorem o_append : OpM K T rAppend Mi.oAppend := by
  intro α F cs H x ys d cs' v vs rc rx rys e Q q
  unfold Mi.oAppend at e
  split at e
  · rename_i k xs y hc
    obtain ⟨w, ws, rfl, r1, r2⟩ := rys
    have ews : ws = [] := r2
    subst ews
    obtain ⟨a, zs, rfl, ea, hH, r⟩ := cellL_of rc rx hc
    by_cases hl : xs.length < Mi.SIZE
    · rw [if_pos hl] at e
      cases e
      refine ⟨a, zs, w, rfl, rfl, hH, by rw [r.length, ← size_eq]; exact hl, ?_⟩
      obtain ⟨rc2, nx2⟩ := rc.write (c := .lst (xs ++ [y])) (o := .lst (zs ++ [w])) ea ⟨_, upd_same, r.append (Rps.one r1)⟩
      exact q _ _ _ _ nx2 rc2 rfl
    · rw [if_neg hl] at e
      cases e
  · cases e
theorem o_extend : OpM K T rExtend Mi.oExtend := by
  intro α F cs H x ys d cs' v vs rc rx rys e Q q
  unfold Mi.oExtend at e
  split at e
  · rename_i k xs y hc
    obtain ⟨w, ws, rfl, r1, r2⟩ := rys
    have ews : ws = [] := r2
    subst ews
    obtain ⟨a, zs, rfl, ea, hH, r⟩ := cellL_of rc rx hc
    split at e
    · rename_i us hu
      obtain ⟨b, bs, rfl, hb, rb⟩ := ownOf_of rc r1 hu
      by_cases hl : xs.length + us.length ≤ Mi.SIZE
      · rw [if_pos hl] at e
        cases e
        refine ⟨a, b, zs, bs, rfl, rfl, hH, hb, by rw [r.length, rb.length, ← size_eq]; exact hl, ?_⟩
        obtain ⟨rc2, nx2⟩ := rc.write (c := .lst (xs ++ us)) (o := .lst (zs ++ bs)) ea ⟨_, upd_same, r.append rb⟩
        exact q _ _ _ _ nx2 rc2 rfl
      · rw [if_neg hl] at e
        cases e
    · cases e
  · cases e
theorem Rps.dropLast {α F} {ds : List Mi.D} {vs : List V} (r : Rps K T α F ds vs) : Rps K T α F ds.dropLast vs.dropLast := by
  rw [List.dropLast_eq_take, List.dropLast_eq_take, r.length]
  exact r.take _
theorem o_pop : OpM K T rPop Mi.oPop := by
  intro α F cs H x ys d cs' v vs rc rx rys e Q q
  unfold Mi.oPop at e
  split at e
  · rename_i k xs hc
    have evs : vs = [] := rys
    subst evs
    obtain ⟨a, zs, rfl, ea, hH, r⟩ := cellL_of rc rx hc
    cases hl : xs.getLast? with
    | none => rw [hl] at e; cases e
    | some y =>
      rw [hl] at e
      cases e
      rw [List.getLast?_eq_getElem?] at hl
      obtain ⟨w, hw, rw_⟩ := r.get hl
      refine ⟨a, zs, w, rfl, rfl, hH, by rw [r.length]; exact hw, ?_⟩
      obtain ⟨rc2, nx2⟩ := rc.write (c := .lst xs.dropLast) (o := .lst zs.dropLast) ea ⟨_, upd_same, r.dropLast⟩
      exact q _ _ _ _ nx2 rc2 rw_
  · cases e
theorem Rps.eraseIdx {α F} {ds : List Mi.D} {vs : List V} (i : Nat) (r : Rps K T α F ds vs) : Rps K T α F (ds.eraseIdx i) (vs.eraseIdx i) := by
  rw [List.eraseIdx_eq_take_drop_succ, List.eraseIdx_eq_take_drop_succ]
  exact (r.take _).append (r.drop _)
theorem o_popAt : OpM K T rPopAt Mi.oPopAt := by
  intro α F cs H x ys d cs' v vs rc rx rys e Q q
  unfold Mi.oPopAt at e
  split at e
  · rename_i k xs i hc
    obtain ⟨w, ws, rfl, r1, r2⟩ := rys
    have ews : ws = [] := r2
    subst ews
    have ew : w = .int i := r1
    subst ew
    obtain ⟨a, zs, rfl, ea, hH, r⟩ := cellL_of rc rx hc
    by_cases hi : 0 ≤ i ∧ i < 16777216
    · rw [if_pos hi] at e
      cases hl : xs[i.toNat]? with
      | none => rw [hl] at e; cases e
      | some y =>
        rw [hl] at e
        cases e
        obtain ⟨w, hw, rw_⟩ := r.get hl
        have hlt := (List.getElem?_eq_some_iff.mp hw).1
        refine ⟨a, zs, i, i.toNat, w, rfl, rfl, hH, by omega, by omega, ?_, hw, ?_⟩
        · exact seqIndex_of hi.1 (by omega)
        obtain ⟨rc2, nx2⟩ := rc.write (c := .lst (xs.eraseIdx i.toNat)) (o := .lst (zs.eraseIdx i.toNat)) ea ⟨_, upd_same, r.eraseIdx _⟩
        exact q _ _ _ _ nx2 rc2 rw_
    · rw [if_neg hi] at e
      cases e
  · cases e
theorem o_insert : OpM K T (fun x vs H Q => ∃ (l : Addr) (xs : List V) (i : Int) (y : V), x = .ref l ∧ vs = [.int i, y] ∧ H l = some (.lst xs) ∧ xs.length < sizeLine ∧ 0 ≤ i ∧ i < 2 ^ 63 ∧ Q .non (upd H l (.lst (xs.take i.toNat ++ [y] ++ xs.drop i.toNat)))) Mi.oInsert := by
  intro α F cs H x ys d cs' v vs rc rx rys e Q q
  unfold Mi.oInsert at e
  split at e
  · rename_i k xs i y hc
    obtain ⟨w, ws, rfl, r1, w2, ws2, rfl, r2, r3⟩ := rys
    have ews : ws2 = [] := r3
    subst ews
    have ew : w = .int i := r1
    subst ew
    obtain ⟨a, zs, rfl, ea, hH, r⟩ := cellL_of rc rx hc
    by_cases hi : 0 ≤ i ∧ i.toNat ≤ xs.length ∧ xs.length < Mi.SIZE
    · rw [if_pos hi] at e
      cases e
      have hl := r.length
      have hz : xs.length < sizeLine := by rw [← size_eq]; exact hi.2.2
      refine ⟨a, zs, i, w2, rfl, rfl, hH, by omega, hi.1, by rw [sizeLine_eq] at hz; omega, ?_⟩
      have rr : Rps K T α F (xs.take i.toNat ++ y :: xs.drop i.toNat) (zs.take i.toNat ++ [w2] ++ zs.drop i.toNat) := by
        have := ((r.take i.toNat).append (Rps.one r2)).append (r.drop i.toNat)
        rw [List.append_assoc] at this
        exact this
      obtain ⟨rc2, nx2⟩ := rc.write (c := .lst (xs.take i.toNat ++ y :: xs.drop i.toNat)) (o := .lst (zs.take i.toNat ++ [w2] ++ zs.drop i.toNat)) ea ⟨_, upd_same, rr⟩
      exact q _ _ _ _ nx2 rc2 rfl
    · rw [if_neg hi] at e
      cases e
  · cases e
end
theorem br_m {name : Str} {Ty id : String} {r : V → List V → Hp → VK → Prop} {ok : Mi.Cs → Mi.D → Bool} {op : Mi.Cs → Mi.D → List Mi.D → Option (Mi.D × Mi.Cs)} {e : Expr} (pa : PlainAttrs Ty) (slot : Slot Ty name id) (hty : typeOf (.builtin id) = pure (.type "method_descriptor")) (hm : MtR X id r)
    (hk : OkM X.K T Ty ok) (hs : OpM X.K T r op) (ho : PE X o (MV X.K T W ea)) (ha : PA X (e :: es) (MA X.K T W l))
    (hbase : attributeBase o name X.env (eval o X.env) = eval o X.env := by rfl) (hline : (apos.endLine == cpos.line) = true := by rfl)
    (hfew : ((backTo cpos (starEach (e :: es) X.env)).all (fun x => !x.1) && (backToKw cpos (keywordEach [] X.env)).all (fun x => x.1.isSome)
      && decide ((e :: es).length + ([] : List Keyword).length + (if ([] : List Keyword).isEmpty then 0 else 1) < 30)) = true := by rfl)
    (he : starEach (e :: es) X.env = (false, eval e X.env) :: starEach es X.env := by rfl) (hpl : (backTo cpos (starEach es X.env)).any (·.1) = false := by rfl) :
    PE X (.Call (.Attribute o name apos) (e :: es) [] cpos) (MV X.K T W (Mi.m1 ok op ea l)) := PE.imp (pe_bm pa slot hty hm ho ha hbase hfew hline he hpl) (mv_bm hk hs)
end
end Br
end
section
set_option Elab.async false
set_option linter.all false
set_option maxRecDepth 100000
set_option maxHeartbeats 4000000
namespace Br
open PySem PySem.Spec PyProof.Rows L2

section
variable {X : Cx} {T : Tab} {W : WX} {a b c o : Expr} {ea eb ec : Mi.E} {l : Mi.EL} {es rest : List Expr} {pos apos cpos : Pos}
theorem mt_tB {K : PySem.W.Frag} (σ : L2.St) (H : Hp) (Q : Bool → Hp → Prop) (h : MT K T W ea σ H Q) : tB (MV K T W ea) σ H Q := by
  obtain ⟨α, F, env, cs, rc, ev, h⟩ := h
  refine ⟨α, F, env, cs, rc, ev, h.mono fun α1 F1 cs1 H1 d _ _ q v r => ?_⟩
  obtain ⟨k, rfl, q⟩ := q
  exact ⟨k, r, q⟩
theorem bt_val {e : Expr} (h : PE X e (MV X.K T W ea)) (he : ∀ whole, isTrue e X.env whole = (do let v ← whole; standAt e.pos; holding [v] (truthy v)) := by intro _; rfl) : PT X e (MT X.K T W ea) := PT.imp (pt_val h he) mt_tB
theorem mt_and {K : PySem.W.Frag} (σ : L2.St) (H : Hp) (Q : Bool → Hp → Prop) (h : MT K T W (Mi.eAnd ea eb) σ H Q) : tAnd (MT K T W ea) (MT K T W eb) σ H Q := by
  obtain ⟨α, F, env, cs, rc, ev, h⟩ := h
  refine ⟨α, F, env, cs, rc, ev, h.bnd.mono fun α1 F1 cs1 H1 d lt1 rc1 o1 => ?_⟩
  cases d <;> try exact o1.elim
  rename_i k
  refine ⟨k, rfl, ?_⟩
  cases k with
  | true =>
    show MT K T W eb σ H1 Q
    exact ⟨α1, F1, env, cs1, rc1, ev.mono lt1.toLt, o1⟩
  | false =>
    obtain ⟨k', e, q⟩ := o1.v (Nx.refl _ _ _) rc1
    cases e
    exact q
theorem mt_or {K : PySem.W.Frag} (σ : L2.St) (H : Hp) (Q : Bool → Hp → Prop) (h : MT K T W (Mi.eOr ea eb) σ H Q) : tOr (MT K T W ea) (MT K T W eb) σ H Q := by
  obtain ⟨α, F, env, cs, rc, ev, h⟩ := h
  refine ⟨α, F, env, cs, rc, ev, h.bnd.mono fun α1 F1 cs1 H1 d lt1 rc1 o1 => ?_⟩
  cases d <;> try exact o1.elim
  rename_i k
  refine ⟨k, rfl, ?_⟩
  cases k with
  | false =>
    show MT K T W eb σ H1 Q
    exact ⟨α1, F1, env, cs1, rc1, ev.mono lt1.toLt, o1⟩
  | true =>
    obtain ⟨k', e, q⟩ := o1.v (Nx.refl _ _ _) rc1
    cases e
    exact q
theorem bw_1 {op} (ha : PT X a (MT X.K T W ea)) : PW X (.BoolOp op [a] pos) (MT X.K T W ea) := by
  cases op
  · exact pw_and1 ha
  · exact pw_or1 ha
theorem bw_and (ha : PT X a (MT X.K T W ea)) (hb : PW X (.BoolOp .And (b :: rest) pos) (MT X.K T W eb)) : PW X (.BoolOp .And (a :: b :: rest) pos) (MT X.K T W (Mi.eAnd ea eb)) := PW.imp (pw_and ha hb) mt_and
theorem bw_or (ha : PT X a (MT X.K T W ea)) (hb : PW X (.BoolOp .Or (b :: rest) pos) (MT X.K T W eb)) : PW X (.BoolOp .Or (a :: b :: rest) pos) (MT X.K T W (Mi.eOr ea eb)) := PW.imp (pw_or ha hb) mt_or
theorem bt_not (ha : PT X a (MT X.K T W ea)) : PT X (.UnaryOp .Not a pos) (MT X.K T W (Mi.e1 Mi.oNot ea)) := PT.imp (pt_not ha) fun σ H Q h => by
  obtain ⟨α, F, env, cs, rc, ev, h⟩ := h
  refine ⟨α, F, env, cs, rc, ev, h.bnd.mono fun α1 F1 cs1 H1 d lt1 rc1 o1 => ?_⟩
  obtain ⟨z, e, k', e', q⟩ := o1.out rc1
  subst e'
  cases d <;> simp only [Mi.oNot, reduceCtorEq, Option.some.injEq, Mi.D.bl.injEq] at e
  rename_i k
  refine ⟨k, rfl, ?_⟩
  show Q (!k) H1
  rw [e]
  exact q
theorem mv_and {K : PySem.W.Frag} (σ : L2.St) (H : Hp) (Q : VK) (h : MV K T W (Mi.eAnd ea eb) σ H Q) : tAndV (MV K T W ea) (MV K T W eb) σ H Q := by
  obtain ⟨α, F, env, cs, rc, ev, h⟩ := h
  refine ⟨α, F, env, cs, rc, ev, h.bnd.mono fun α1 F1 cs1 H1 d lt1 rc1 o1 v r1 => ?_⟩
  cases d <;> try exact o1.elim
  rename_i k
  refine ⟨k, r1, ?_⟩
  cases k with
  | true =>
    show MV K T W eb σ H1 Q
    exact ⟨α1, F1, env, cs1, rc1, ev.mono lt1.toLt, o1⟩
  | false => exact o1.v (Nx.refl _ _ _) rc1 _ rfl
theorem mv_or {K : PySem.W.Frag} (σ : L2.St) (H : Hp) (Q : VK) (h : MV K T W (Mi.eOr ea eb) σ H Q) : tOrV (MV K T W ea) (MV K T W eb) σ H Q := by
  obtain ⟨α, F, env, cs, rc, ev, h⟩ := h
  refine ⟨α, F, env, cs, rc, ev, h.bnd.mono fun α1 F1 cs1 H1 d lt1 rc1 o1 v r1 => ?_⟩
  cases d <;> try exact o1.elim
  rename_i k
  refine ⟨k, r1, ?_⟩
  cases k with
  | false =>
    show MV K T W eb σ H1 Q
    exact ⟨α1, F1, env, cs1, rc1, ev.mono lt1.toLt, o1⟩
  | true => exact o1.v (Nx.refl _ _ _) rc1 _ rfl
theorem br_one {op} (ha : PE X a (MV X.K T W ea)) : PE X (.BoolOp op [a] pos) (MV X.K T W ea) := pe_one ha
theorem br_and (ha : PE X a (MV X.K T W ea)) (hb : PE X (.BoolOp .And (b :: rest) pos) (MV X.K T W eb)) : PE X (.BoolOp .And (a :: b :: rest) pos) (MV X.K T W (Mi.eAnd ea eb)) := PE.imp (pe_and ha hb) mv_and
theorem br_or (ha : PE X a (MV X.K T W ea)) (hb : PE X (.BoolOp .Or (b :: rest) pos) (MV X.K T W eb)) : PE X (.BoolOp .Or (a :: b :: rest) pos) (MV X.K T W (Mi.eOr ea eb)) := PE.imp (pe_or ha hb) mv_or
theorem br_not (ha : PE X a (MV X.K T W ea)) : PE X (.UnaryOp .Not a pos) (MV X.K T W (Mi.e1 Mi.oNot ea)) := PE.imp (pe_not ha) fun σ H Q h => by
  obtain ⟨α, F, env, cs, rc, ev, h⟩ := h
  refine ⟨α, F, env, cs, rc, ev, h.bnd.mono fun α1 F1 cs1 H1 d lt1 rc1 o1 v r1 => ?_⟩
  obtain ⟨z, e, q⟩ := o1.out rc1
  cases d <;> simp only [Mi.oNot, reduceCtorEq, Option.some.injEq] at e
  rename_i k
  subst e
  exact ⟨k, r1, q _ rfl⟩
theorem br_ifExp (hc : PT X c (MT X.K T W ec)) (ha : PE X a (MV X.K T W ea)) (hb : PE X b (MV X.K T W eb)) : PE X (.IfExp c a b pos) (MV X.K T W (Mi.eIf ec ea eb)) := PE.imp (pe_ifExp hc ha hb) fun σ H Q h => by
  obtain ⟨α, F, env, cs, rc, ev, h⟩ := h
  refine ⟨α, F, env, cs, rc, ev, h.bnd.mono fun α1 F1 cs1 H1 d lt1 rc1 o1 => ?_⟩
  cases d <;> try exact o1.elim
  rename_i k
  refine ⟨k, rfl, ?_⟩
  cases k with
  | true =>
    show MV X.K T W ea σ H1 Q
    exact ⟨α1, F1, env, cs1, rc1, ev.mono lt1.toLt, o1⟩
  | false =>
    show MV X.K T W eb σ H1 Q
    exact ⟨α1, F1, env, cs1, rc1, ev.mono lt1.toLt, o1⟩
theorem mv_chain {K : PySem.W.Frag} {r r' : R2} {f f' : Mi.Cs → Mi.D → Mi.D → Option Mi.D} (hs : Op2 K T r f) (hs' : Op2 K T r' f') (σ : L2.St) (H : Hp) (Q : VK) (h : MV K T W (Mi.eChain f f' ea eb ec) σ H Q) : tChain r r' (MV K T W ea) (MV K T W eb) (MV K T W ec) σ H Q := by
  obtain ⟨α, F, env, cs, rc, ev, h⟩ := h
  refine ⟨α, F, env, cs, rc, ev, h.bnd.mono fun α1 F1 cs1 H1 x lt1 rc1 o1 v r1 => ?_⟩
  refine ⟨α1, F1, env, cs1, rc1, ev.mono lt1.toLt, o1.bnd.mono fun α2 F2 cs2 H2 y lt2 rc2 o2 w r2 => ?_⟩
  split at o2
  · rename_i e
    refine hs α2 F2 cs2 H2 x y _ v w rc2 (Rp.mono lt2.toLt _ _ r1) r2 e _ fun α3 F3 H3 u lt3 rc3 r3 => ?_
    refine ⟨true, r3, ?_⟩
    rw [if_pos rfl]
    refine ⟨α3, F3, env, cs2, rc3, ev.mono ((lt1.trans lt2).trans lt3).toLt, ((o2.later lt3).bnd).mono fun α4 F4 cs4 H4 z lt4 rc4 o4 w4 r4 => ?_⟩
    obtain ⟨z', e', _⟩ := o4.out rc4
    rw [e'] at o4
    exact hs' α4 F4 cs4 H4 y z z' w w4 rc4 (Rp.mono (lt3.trans lt4).toLt _ _ r2) r4 e' Q fun α5 F5 H5 u lt5 rc5 r5 => o4.v lt5 rc5 u r5
  · rename_i e
    refine hs α2 F2 cs2 H2 x y _ v w rc2 (Rp.mono lt2.toLt _ _ r1) r2 e _ fun α3 F3 H3 u lt3 rc3 r3 => ?_
    refine ⟨false, r3, ?_⟩
    rw [if_neg Bool.false_ne_true]
    exact o2.v lt3 rc3 _ rfl
  · exact o2.elim
theorem bt_chain {op op' : CmpOp} {r r' : R2} {f f' : Mi.Cs → Mi.D → Mi.D → Option Mi.D} (ho : OpR X (compareOp op) r) (ho' : OpR X (compareOp op') r') (hs : Op2 X.K T r f) (hs' : Op2 X.K T r' f') (ha : PE X a (MV X.K T W ea)) (hb : PE X b (MV X.K T W eb)) (hc : PE X c (MV X.K T W ec)) (hm : lastMarks [op, op'] [b, c] = false := by with_unfolding_all rfl) :
    PT X (.Compare a [op, op'] [b, c] pos) (MT X.K T W (Mi.eChain f f' ea eb ec)) := PT.imp (pt_chain ho ho' ha hb hc hm) fun σ H Q h => by
  obtain ⟨α, F, env, cs, rc, ev, h⟩ := h
  refine mv_chain hs hs' σ H _ ⟨α, F, env, cs, rc, ev, h.mono fun α1 F1 cs1 H1 d _ _ q v r => ?_⟩
  obtain ⟨k, rfl, q⟩ := q
  exact ⟨k, r, q⟩

section
variable (K : PySem.W.Frag) (T : Tab) (W : WX)
def OutS (α : List Addr) (F H : Hp) (D : Ends) (m : Option Mi.O) : Prop :=
  match m with
  | none => False
  | some (.nx env cs) => ∀ α' F' H' σ', Nx α F H α' F' H' → RC K T α' F' cs H' → Ev K T α' F' env σ' → D.nx σ' H'
  | some (.bk env cs) => ∀ α' F' H' σ', Nx α F H α' F' H' → RC K T α' F' cs H' → Ev K T α' F' env σ' → D.bk σ' H'
  | some (.ct env cs) => ∀ α' F' H' σ', Nx α F H α' F' H' → RC K T α' F' cs H' → Ev K T α' F' env σ' → D.ct σ' H'
  | some (.rt d cs) => ∀ α' F' H' v, Nx α F H α' F' H' → RC K T α' F' cs H' → Rp K T α' F' d v → D.rt v H'
  | some (.x c env cs) => ∀ α' F' H' σ' C nm, Nx α F H α' F' H' → RC K T α' F' cs H' → Ev K T α' F' env σ' → T c = some (C, nm) → W (.ref C) none σ' H'
def MS (s : Mi.S) : TS := fun D σ H => ∃ α F env cs, RC K T α F cs H ∧ Ev K T α F env σ ∧ OutS K T W α F H D (s env cs)
end
section
variable {K : PySem.W.Frag} {α α' : List Addr} {F F' H H' : Hp} {cs : Mi.Cs} {env : Mi.Env} {σ : L2.St} {D D' : Ends}
theorem OutS.later {m : Option Mi.O} (lt : Nx α F H α' F' H') (h : OutS K T W α F H D m) : OutS K T W α' F' H' D m := by
  match m, h with
  | some (.nx env cs), h => exact fun _ _ _ _ lt' rc => h _ _ _ _ (lt.trans lt') rc
  | some (.bk env cs), h => exact fun _ _ _ _ lt' rc => h _ _ _ _ (lt.trans lt') rc
  | some (.ct env cs), h => exact fun _ _ _ _ lt' rc => h _ _ _ _ (lt.trans lt') rc
  | some (.rt d cs), h => exact fun _ _ _ _ lt' rc => h _ _ _ _ (lt.trans lt') rc
  | some (.x c env cs), h => exact fun _ _ _ _ _ _ lt' rc => h _ _ _ _ _ _ (lt.trans lt') rc
theorem OutS.thn {A : Type} {m : Option (Mi.R A)} {f : A → Mi.Cs → Option Mi.O} (ev : Ev K T α F env σ) (h : OutS K T W α F H D (Mi.thn env m f)) : Out K T W σ α F H m fun α1 F1 cs1 H1 a => OutS K T W α1 F1 H1 D (f a cs1) := by
  match m, h with
  | some (.v a cs), h => exact fun α' F' H' lt rc => OutS.later lt h
  | some (.x c cs), h => exact fun α' F' H' C nm lt rc t => h α' F' H' σ C nm lt rc (ev.mono lt.toLt) t
  | none, h => exact h.elim
theorem OutS.nx (h : OutS K T W α F H D (some (.nx env cs))) (rc : RC K T α F cs H) (ev : Ev K T α F env σ) : D.nx σ H := h α F H σ (Nx.refl _ _ _) rc ev
end
theorem bs_seq {K : PySem.W.Frag} {s t : Mi.S} (D : Ends) (σ : L2.St) (H : Hp) (h : MS K T W (Mi.sSeq s t) D σ H) : tSeq (MS K T W s) (MS K T W t) D σ H := by
  obtain ⟨α, F, env, cs, rc, ev, h⟩ := h
  refine ⟨α, F, env, cs, rc, ev, ?_⟩
  unfold Mi.sSeq at h
  cases e : s env cs with
  | none => rw [e] at h; exact h.elim
  | some o =>
    rw [e] at h
    cases o with
    | nx env' cs' => exact fun α' F' H' σ' lt rc' ev' => ⟨α', F', env', cs', rc', ev', OutS.later lt h⟩
    | rt d cs' => exact h
    | bk env' cs' => exact h
    | ct env' cs' => exact h
    | x c env' cs' => exact h
variable {st : Stmt} {sts sts2 : List Stmt} {s t : Mi.S}
theorem bss_nil : PSs X [] (MS X.K T W Mi.sNext) := PSs.imp pss_nil fun D σ H h => by
  obtain ⟨α, F, env, cs, rc, ev, h⟩ := h
  exact OutS.nx h rc ev
theorem bss_one (h : PS X st (MS X.K T W s)) : PSs X [st] (MS X.K T W s) := pss_one h
theorem bss_cons (h1 : PS X st (MS X.K T W s)) (h2 : PSs X sts (MS X.K T W t)) : PSs X (st :: sts) (MS X.K T W (Mi.sSeq s t)) := PSs.imp (pss_cons h1 h2) bs_seq
theorem ms_set {K : PySem.W.Frag} {i : Nat} (D : Ends) (σ : L2.St) (H : Hp) (h : MS K T W (Mi.sSet i ea) D σ H) : tAsg (MV K T W ea) (gName i) D σ H := by
  obtain ⟨α, F, env, cs, rc, ev, h⟩ := h
  exact ⟨α, F, env, cs, rc, ev, (OutS.thn ev h).mono fun α1 F1 cs1 H1 d lt1 rc1 o1 v r1 => OutS.nx o1 rc1 ((ev.mono lt1.toLt).set r1 i)⟩
theorem bs_set {i : Nat} {x : Str} {e : Expr} {pos' : Pos} (hN : X.N.Nodup) (hi : X.N[i]? = some x) (hx : Loc X.env.scope x) (he : PE X e (MV X.K T W ea)) (hs : swapsWith e (some (.Name x pos')) pos.line X.env = pure false := by rfl)
    (hf : X.fn x = true ∨ X.env.scope.names.lookup x = some .local := by first | exact .inl rfl | exact .inr rfl | assumption) : PS X (.Assign [.Name x pos'] e pos) (MS X.K T W (Mi.sSet i ea)) := PS.imp (ps_set hN hi hx he hs hf) ms_set
theorem bs_expr {e : Expr} (he : PE X e (MV X.K T W ea)) (hs : swapsWith e none pos.line X.env = pure false := by rfl) : PS X (.Expr e pos) (MS X.K T W (Mi.sExpr ea)) := PS.imp (ps_expr he hs) fun D σ H h => by
  obtain ⟨α, F, env, cs, rc, ev, h⟩ := h
  exact ⟨α, F, env, cs, rc, ev, (OutS.thn ev h).mono fun α1 F1 cs1 H1 d lt1 rc1 o1 v r1 => OutS.nx o1 rc1 (ev.mono lt1.toLt)⟩
theorem bs_ret {e : Expr} (he : PE X e (MV X.K T W ea)) : PS X (.Return (some e) pos) (MS X.K T W (Mi.sRet ea)) := PS.imp (ps_ret he) fun D σ H h => by
  obtain ⟨α, F, env, cs, rc, ev, h⟩ := h
  exact ⟨α, F, env, cs, rc, ev, (OutS.thn ev h).mono fun α1 F1 cs1 H1 d lt1 rc1 o1 v r1 => o1 α1 F1 H1 v (Nx.refl _ _ _) rc1 r1⟩
theorem bs_pass : PS X (.Pass pos) (MS X.K T W Mi.sNext) := PS.imp ps_pass fun D σ H h => by
  obtain ⟨α, F, env, cs, rc, ev, h⟩ := h
  exact OutS.nx h rc ev
theorem bs_cont : PS X (.Continue pos) (MS X.K T W Mi.sCont) := PS.imp ps_continue fun D σ H h => by
  obtain ⟨α, F, env, cs, rc, ev, h⟩ := h
  exact h α F H σ (Nx.refl _ _ _) rc ev
theorem bs_break : PS X (.Break pos) (MS X.K T W Mi.sBreak) := PS.imp ps_break fun D σ H h => by
  obtain ⟨α, F, env, cs, rc, ev, h⟩ := h
  exact h α F H σ (Nx.refl _ _ _) rc ev
theorem bs_if (hc : PT X c (MT X.K T W ec)) (ha : PSs X sts (MS X.K T W s)) (hb : PSs X sts2 (MS X.K T W t)) : PS X (.If c sts sts2 pos) (MS X.K T W (Mi.sIf ec s t)) := PS.imp (ps_if hc ha hb) fun D σ H h => by
  obtain ⟨α, F, env, cs, rc, ev, h⟩ := h
  refine ⟨α, F, env, cs, rc, ev, (OutS.thn ev h).mono fun α1 F1 cs1 H1 d lt1 rc1 o1 => ?_⟩
  cases d <;> try exact o1.elim
  rename_i k
  refine ⟨k, rfl, ?_⟩
  cases k with
  | true =>
    show MS X.K T W s D σ H1
    exact ⟨α1, F1, env, cs1, rc1, ev.mono lt1.toLt, o1⟩
  | false =>
    show MS X.K T W t D σ H1
    exact ⟨α1, F1, env, cs1, rc1, ev.mono lt1.toLt, o1⟩
theorem bs_aug {i : Nat} {x : Str} {e : Expr} {op : Operator} {g : Int → Int → Int} {f : Mi.Cs → Mi.D → Mi.D → Option Mi.D} {pos' : Pos} (hN : X.N.Nodup) (hi : X.N[i]? = some x) (hx : Loc X.env.scope x) (he : PE X e (MV X.K T W ea)) (ho : PIp X op (ipI g))
    (hg : ∀ cs x y z, f cs x y = some z → ∃ i j, x = .int i ∧ y = .int j ∧ z = .int (g i j))
    (hf : X.fn x = true ∨ X.env.scope.names.lookup x = some .local := by first | exact .inl rfl | exact .inr rfl | assumption) : PS X (.AugAssign (.Name x pos') op e pos) (MS X.K T W (Mi.sAug i f ea)) := PS.imp (ps_aug hN hi hx he ho hf) fun D σ H h => by
  obtain ⟨α, F, env, cs, rc, ev, h⟩ := h
  unfold Mi.sAug at h
  split at h
  · rename_i d e
    obtain ⟨v, h1, h2⟩ := ev.at_ i d e
    refine ⟨v, h1, α, F, env, cs, rc, ev, (OutS.thn ev h).mono fun α1 F1 cs1 H1 y lt1 rc1 o1 w r1 => ?_⟩
    cases q : f cs1 d y with
    | none => rw [q] at o1; exact o1.elim
    | some z =>
      rw [q] at o1
      obtain ⟨m, n, rfl, rfl, rfl⟩ := hg _ _ _ _ q
      exact ⟨m, n, h2, r1, OutS.nx o1 rc1 ((ev.mono lt1.toLt).set (d := .int (g m n)) (v := .int (g m n)) rfl i)⟩
  · exact h.elim
theorem g_add (cs : Mi.Cs) (x y z : Mi.D) (h : Mi.oAdd cs x y = some z) : ∃ i j, x = .int i ∧ y = .int j ∧ z = .int (i + j) := by
  unfold Mi.oAdd at h
  split at h
  · cases h
    exact ⟨_, _, rfl, rfl, rfl⟩
  · cases h

theorem ms_put {K : PySem.W.Frag} {tset : TSet} {op : Mi.Cs → Mi.D → Mi.D → Mi.D → Option Mi.Cs} (hs : ∀ α F cs H x y d cs' v w u, RC K T α F cs H → Rp K T α F x v → Rp K T α F y w → Rp K T α F d u → op cs x y d = some cs' →
      ∀ Q : Hp → Prop, (∀ α' F' H', Nx α F H α' F' H' → RC K T α' F' cs' H' → Q H') → tset v w u H Q)
    (D : Ends) (σ : L2.St) (H : Hp) (h : MS K T W (Mi.sPut op ea eb ec) D σ H) : tAsg (MV K T W ec) (gSub (MV K T W ea) (MV K T W eb) tset) D σ H := by
  obtain ⟨α, F, env, cs, rc, ev, h⟩ := h
  refine ⟨α, F, env, cs, rc, ev, (OutS.thn ev h).mono fun α1 F1 cs1 H1 d lt1 rc1 o1 u r1 => ?_⟩
  have ev1 := ev.mono lt1.toLt
  refine ⟨α1, F1, env, cs1, rc1, ev1, (OutS.thn ev1 o1).mono fun α2 F2 cs2 H2 x lt2 rc2 o2 v r2 => ?_⟩
  have ev2 := ev1.mono lt2.toLt
  refine ⟨α2, F2, env, cs2, rc2, ev2, (OutS.thn ev2 o2).mono fun α3 F3 cs3 H3 y lt3 rc3 o3 w r3 => ?_⟩
  cases e : op cs3 x y d with
  | none => rw [e] at o3; exact o3.elim
  | some cs4 =>
    rw [e] at o3
    refine hs α3 F3 cs3 H3 x y d cs4 v w u rc3 (Rp.mono lt3.toLt _ _ r2) r3 (Rp.mono (lt2.trans lt3).toLt _ _ r1) e _ fun α4 F4 H4 lt4 rc4 => ?_
    exact o3 α4 F4 H4 σ lt4 rc4 (ev2.mono (lt3.trans lt4).toLt)
theorem put_list {K : PySem.W.Frag} : ∀ α F cs H x y d cs' v w u, RC K T α F cs H → Rp K T α F x v → Rp K T α F y w → Rp K T α F d u → Mi.putL cs x y d = some cs' →
      ∀ Q : Hp → Prop, (∀ α' F' H', Nx α F H α' F' H' → RC K T α' F' cs' H' → Q H') → rSetL v w u H Q := by
  intro α F cs H x y d cs' v w u rc rx ry rd e Q q
  unfold Mi.putL at e
  split at e
  · rename_i k xs z hc
    have ew : w = .int z := ry
    subst ew
    obtain ⟨a, zs, rfl, ea, hH, r⟩ := cellL_of rc rx hc
    rw [r.ixN] at e
    cases hj : L2.ixN zs.length z with
    | none => rw [hj] at e; cases e
    | some j =>
      rw [hj] at e
      cases e
      obtain ⟨rc2, nx2⟩ := rc.write (c := .lst (xs.set j d)) (o := .lst (zs.set j u)) ea ⟨_, upd_same, r.set rd j⟩
      exact ⟨a, zs, z, j, rfl, rfl, hH, hj, q _ _ _ nx2 rc2⟩
  · cases e
theorem bs_putL {i e : Expr} {pos' : Pos} (ho : PE X o (MV X.K T W ea)) (hi : PE X i (MV X.K T W eb)) (he : PE X e (MV X.K T W ec)) (hp : ∀ v, assign (.Subscript o i pos') X.env v = (do
      let ov ← holding [v] (eval o X.env)
      let iv ← holding [v, ov] (eval i X.env)
      standAt pos'
      holding [v, ov, iv] (setItem ov iv v)
      release [v, ov, iv] []) := by intro _; rfl) (hs : swapsWithSole [.Subscript o i pos'] e pos.line X.env = pure false := by rfl) (hw : swappedStores [.Subscript o i pos'] e X.env = pure none := by rfl) :
    PS X (.Assign [.Subscript o i pos'] e pos) (MS X.K T W (Mi.sPut Mi.putL ea eb ec)) := PS.imp (ps_asg he (pg_sub ho hi set_list hp) hs hw) (ms_put put_list)
end
end Br
end
section
set_option Elab.async false
set_option linter.all false
set_option maxRecDepth 100000
set_option maxHeartbeats 4000000
namespace Br
open PySem PySem.Spec PyProof.Rows L2

section
variable (K : PySem.W.Frag) (T : Tab)
def JOk (J : L2.It) (α : List Addr) (F H : Hp) (items : List Mi.D) (chk : Mi.Cs → Bool) : Prop := ∀ (i : Nat) α' F' cs H', Nx α F H α' F' H' → RC K T α' F' cs H' → chk cs = true →
  (∀ d, items[i]? = some d → J.go i H' ∧ ∀ x H'', J.yld i H' x H'' → ∃ F'', Nx α' F' H' α' F'' H'' ∧ RC K T α' F'' cs H'' ∧ Rp K T α' F'' d x) ∧ (items[i]? = none → J.stop i H')
def MI (W : WX) (it : Mi.I) : TI := fun σ H R => ∃ α F env cs, RC K T α F cs H ∧ Ev K T α F env σ ∧ Out K T W σ α F H (it env cs) fun α' F' _ H' w => ∀ J, JOk K T J α' F' H' w.items w.chk → R J H'
end
theorem PI.imp {X : Cx} {tg e : Expr} {t t' : TI} (h : PI X tg e t) (i : ∀ σ H Q, t' σ H Q → t σ H Q) : PI X tg e t' := ⟨fun pins s σ H Q I q => h.run pins s σ H Q I (i σ H Q q)⟩
theorem PG.imp {X : Cx} {e : Expr} {t t' : TG} (h : PG X e t) (i : ∀ v σ H Q, t' v σ H Q → t v σ H Q) : PG X e t' := ⟨fun pins s σ H v u Q I r q => h.run pins s σ H v u Q I r (i v σ H Q q)⟩
section
variable {K : PySem.W.Frag} {T : Tab} {W : WX} {α α' : List Addr} {F F' H H' : Hp} {cs cs' : Mi.Cs} {env : Mi.Env} {σ : L2.St}
theorem beqs_of {a b : List Mi.D} (h : Mi.D.beqs a b = true) : a = b := Mi.D.beqs_eq a b h
theorem eqCell_of {a b : Option Mi.Cell} (h : Mi.eqCell a b = true) : a = b := by
  unfold Mi.eqCell at h
  split at h
  · rw [beqs_of h]
  · rw [Bool.and_eq_true] at h
    rw [beqs_of h.1, beqs_of h.2]
  · rw [Bool.and_eq_true] at h
    rw [of_decide_eq_true h.1, beqs_of h.2]
  · rfl
  · cases h
theorem lstOf_stays {x : Mi.D} {xs : List Mi.D} (h : Mi.lstOf cs x = some xs) (hc : Mi.stays cs x cs' = true) : Mi.lstOf cs' x = some xs := by
  cases x <;> simp only [Mi.lstOf, reduceCtorEq] at h ⊢ <;> try exact h
  rename_i k
  rw [eqCell_of (show Mi.eqCell cs'[k]? cs[k]? = true from hc)]
  exact h
theorem j_list {x : Mi.D} {a : Addr} {xs : List Mi.D} (rx : Rp K T α F x (.ref a)) (h : Mi.lstOf cs x = some xs) : JOk K T (Itl K a) α F H xs (Mi.stays cs x) := by
  intro i α' F' cs' H' nx rc hc
  have h' := lstOf_stays h hc
  have rx' := Rp.mono nx.toLt _ _ rx
  obtain ⟨b, vs, e, s, r⟩ := lstOf_of rc rx' h'
  cases e
  refine ⟨fun d hd => ?_, fun hn => ?_⟩
  · obtain ⟨v, hv, rv⟩ := r.get hd
    refine ⟨⟨vs, v, s, hv⟩, fun y H'' hy => ?_⟩
    obtain ⟨rfl, hy⟩ := hy
    have e2 : y = v := Option.some.inj ((hy vs s).symm.trans hv)
    subst e2
    exact ⟨F', Nx.refl _ _ _, rc, rv⟩
  · exact ⟨vs, s, by rw [r.length]; exact List.getElem?_eq_none_iff.mp hn⟩
theorem j_tup {a : Addr} {xs : List Mi.D} {vs : List V} (h : SqT K F a vs) (r : Rps K T α F xs vs) : JOk K T (Itt K a) α F H xs (fun _ => true) := by
  intro i α' F' cs' H' nx rc hc
  have s : SqT K H' a vs := same_sqT rc.same (nx.fl.sqT h)
  have r := r.mono' nx.toLt
  refine ⟨fun d hd => ?_, fun hn => ?_⟩
  · obtain ⟨v, hv, rv⟩ := r.get hd
    refine ⟨⟨vs, v, s, hv⟩, fun y H'' hy => ?_⟩
    obtain ⟨rfl, hy⟩ := hy
    have e2 : y = v := Option.some.inj ((hy vs s).symm.trans hv)
    subst e2
    exact ⟨F', Nx.refl _ _ _, rc, rv⟩
  · exact ⟨vs, s, by rw [r.length]; exact List.getElem?_eq_none_iff.mp hn⟩
theorem rng_get (lo hi : Int) (i : Nat) : (Mi.rng lo hi)[i]? = if i < (hi - lo).toNat then some (.int (lo + (i : Int))) else none := by
  unfold Mi.rng
  rw [List.getElem?_map]
  by_cases h : i < (hi - lo).toNat
  · rw [List.getElem?_range h, if_pos h]
    rfl
  · rw [if_neg h, List.getElem?_eq_none (by rw [List.length_range]; omega)]
    rfl
theorem j_rng (lo hi : Int) : JOk K T (Itr lo (hi - lo).toNat) α F H (Mi.rng lo hi) (fun _ => true) := by
  intro i α' F' cs' H' nx rc hc
  rw [rng_get]
  by_cases h : i < (hi - lo).toNat
  · rw [if_pos h]
    refine ⟨fun d hd => ⟨h, fun y H'' hy => ?_⟩, fun z => nomatch z⟩
    obtain ⟨rfl, rfl⟩ := hy
    cases hd
    exact ⟨F', Nx.refl _ _ _, rc, rfl⟩
  · rw [if_neg h]
    exact ⟨fun d hd => (nomatch hd), fun _ => Nat.le_of_not_lt h⟩
end

section
variable {X : Cx} {T : Tab} {W : WX} {a b c o tg : Expr} {ea eb ec : Mi.E} {l : Mi.EL} {es rest : List Expr} {pos apos cpos p : Pos}
theorem bi_list (ha : PE X a (MV X.K T W ea)) : PI X tg a (MI X.K T W (Mi.iLst ea)) := PI.imp (pi_list ha) fun σ H R h => by
  obtain ⟨α, F, env, cs, rc, ev, h⟩ := h
  refine ⟨α, F, env, cs, rc, ev, h.bnd.mono fun α1 F1 cs1 H1 x lt1 rc1 o1 v r1 => ?_⟩
  cases e : Mi.lstOf cs1 x with
  | none => rw [e] at o1; exact o1.elim
  | some xs =>
    rw [e] at o1
    obtain ⟨q, vs, rfl, s, r⟩ := lstOf_of rc1 r1 e
    exact ⟨q, rfl, ⟨vs, s⟩, o1.v (Nx.refl _ _ _) rc1 _ (j_list r1 e)⟩
theorem bi_tup (ha : PE X a (MV X.K T W ea)) : PI X tg a (MI X.K T W (Mi.iTup ea)) := PI.imp (pi_tup ha) fun σ H R h => by
  obtain ⟨α, F, env, cs, rc, ev, h⟩ := h
  refine ⟨α, F, env, cs, rc, ev, h.bnd.mono fun α1 F1 cs1 H1 x lt1 rc1 o1 v r1 => ?_⟩
  cases x <;> try exact o1.elim
  rename_i xs
  obtain ⟨q, vs, rfl, s, r⟩ := r1
  exact ⟨q, rfl, ⟨vs, same_sqT rc1.same s⟩, o1.v (Nx.refl _ _ _) rc1 _ (j_tup s r)⟩
theorem okR_of {i : Int} (h : Mi.okR i = true) : -(2 ^ 62) ≤ i ∧ i < 2 ^ 62 := by
  unfold Mi.okR at h
  rw [Bool.and_eq_true] at h
  exact ⟨of_decide_eq_true h.1, of_decide_eq_true h.2⟩
theorem bi_range (hg : Gl X "range") (hm : X.mg "range" = none) (ha : PE X a (MV X.K T W ea)) (na : starEach [a] X.env = (false, eval a X.env) :: starEach [] X.env := by rfl) (hs : starEach [a] X.env = [(false, eval a X.env)] := by rfl) :
    PI X tg (.Call (.Name "range" p) [a] [] pos) (MI X.K T W (Mi.iRange ea)) := PI.imp (pi_range1 hg hm (pa_cons ha pa_nil na) hs) fun σ H R h => by
  obtain ⟨α, F, env, cs, rc, ev, h⟩ := h
  refine ⟨α, F, env, cs, rc, ev, h.bnd.mono fun α1 F1 cs1 H1 x lt1 rc1 o1 v r1 => ?_⟩
  cases x <;> try exact o1.elim
  rename_i n
  have ev' : v = .int n := r1
  subst ev'
  by_cases hn : Mi.okR n = true
  · have o2 : Out X.K T W σ α1 F1 H1 (if Mi.okR n = true then some (Mi.R.v (⟨Mi.rng 0 n, fun _ => true⟩ : Mi.It) cs1) else none) (fun α' F' _ H' w => ∀ J, JOk X.K T J α' F' H' w.items w.chk → R J H') := o1
    rw [if_pos hn] at o2
    obtain ⟨h1, h2⟩ := okR_of hn
    refine ⟨n, rfl, h1, h2, o2.v (Nx.refl _ _ _) rc1 _ ?_⟩
    have := j_rng (K := X.K) (T := T) (α := α1) (F := F1) (H := H1) 0 n
    rw [Int.sub_zero] at this
    exact this
  · have o2 : Out X.K T W σ α1 F1 H1 (if Mi.okR n = true then some (Mi.R.v (⟨Mi.rng 0 n, fun _ => true⟩ : Mi.It) cs1) else none) (fun α' F' _ H' w => ∀ J, JOk X.K T J α' F' H' w.items w.chk → R J H') := o1
    rw [if_neg hn] at o2
    exact o2.elim
theorem bi_range2 (hg : Gl X "range") (hm : X.mg "range" = none) (ha : PE X a (MV X.K T W ea)) (hb : PE X b (MV X.K T W eb)) (na : starEach [a, b] X.env = (false, eval a X.env) :: starEach [b] X.env := by rfl) (nb : starEach [b] X.env = (false, eval b X.env) :: starEach [] X.env := by rfl)
    (hs : starEach [a, b] X.env = [(false, eval a X.env), (false, eval b X.env)] := by rfl) (hs2 : starEach [b] X.env = [(false, eval b X.env)] := by rfl) :
    PI X tg (.Call (.Name "range" p) [a, b] [] pos) (MI X.K T W (Mi.iRange2 ea eb)) := PI.imp (pi_range2 hg hm (pa_cons ha (pa_cons hb pa_nil nb) na) hs hs2) fun σ H R h => by
  obtain ⟨α, F, env, cs, rc, ev, h⟩ := h
  refine ⟨α, F, env, cs, rc, ev, h.bnd.mono fun α1 F1 cs1 H1 x lt1 rc1 o1 v r1 => ?_⟩
  refine ⟨α1, F1, env, cs1, rc1, ev.mono lt1.toLt, o1.bnd.mono fun α2 F2 cs2 H2 y lt2 rc2 o2 w r2 => ?_⟩
  cases x <;> cases y <;> try exact o2.elim
  rename_i m n
  have ev' : v = .int m := r1
  have ew' : w = .int n := r2
  subst ev' ew'
  have o3 : Out X.K T W σ α2 F2 H2 (if (Mi.okR m && Mi.okR n) = true then some (Mi.R.v (⟨Mi.rng m n, fun _ => true⟩ : Mi.It) cs2) else none) (fun α' F' _ H' w => ∀ J, JOk X.K T J α' F' H' w.items w.chk → R J H') := o2
  by_cases hn : (Mi.okR m && Mi.okR n) = true
  · rw [if_pos hn] at o3
    rw [Bool.and_eq_true] at hn
    obtain ⟨h1, h2⟩ := okR_of hn.1
    obtain ⟨h3, h4⟩ := okR_of hn.2
    exact ⟨m, n, rfl, ⟨h1, h2, h3, h4⟩, o3.v (Nx.refl _ _ _) rc2 _ (j_rng m n)⟩
  · rw [if_neg hn] at o3
    exact o3.elim

def MG (K : PySem.W.Frag) (T : Tab) (g : Mi.G) : TG := fun v σ H Q => ∃ α F env cs d, RC K T α F cs H ∧ Ev K T α F env σ ∧ Rp K T α F d v ∧ ∃ env', g d env cs = some env' ∧ ∀ σ', Ev K T α F env' σ' → Q σ' H
def MGs (K : PySem.W.Frag) (T : Tab) (gs : List Mi.G) : TGs := fun vs σ H Q => ∃ α F env cs ds, RC K T α F cs H ∧ Ev K T α F env σ ∧ Rps K T α F ds vs ∧ ∃ env', Mi.gAll gs ds env cs = some env' ∧ ∀ σ', Ev K T α F env' σ' → Q σ' H
theorem bg_name {i : Nat} {x : Str} (hN : X.N.Nodup) (hi : X.N[i]? = some x) (hx : Loc X.env.scope x) (hf : X.fn x = true ∨ X.env.scope.names.lookup x = some .local := by first | exact .inl rfl | exact .inr rfl | assumption) : PG X (.Name x pos) (MG X.K T (Mi.gN i)) :=
  PG.imp (pg_name hN hi hx hf) fun v σ H Q h => by
    obtain ⟨α, F, env, cs, d, rc, ev, r, env', e, q⟩ := h
    cases e
    exact q _ (ev.set r i)
theorem PGs.imp {X : Cx} {e : List Expr} {t t' : TGs} (h : PGs X e t) (i : ∀ v σ H Q, t' v σ H Q → t v σ H Q) : PGs X e t' := ⟨fun pins s σ H v u Q I r q => h.run pins s σ H v u Q I r (i v σ H Q q)⟩
theorem bgs_nil : PGs X [] (MGs X.K T []) := PGs.imp pgs_nil fun vs σ H Q h => by
  obtain ⟨α, F, env, cs, ds, rc, ev, r, env', e, q⟩ := h
  cases ds with
  | nil =>
    cases e
    exact ⟨r, q _ ev⟩
  | cons d ds => cases e
theorem bgs_cons {g : Mi.G} {gs : List Mi.G} {t : Expr} {ts : List Expr} (h1 : PG X t (MG X.K T g)) (h2 : PGs X ts (MGs X.K T gs)) (hs : (assignEach (t :: ts) X.env).map (·.2) = assign t X.env :: (assignEach ts X.env).map (·.2) := by rfl) : PGs X (t :: ts) (MGs X.K T (g :: gs)) := PGs.imp (pgs_cons h1 h2 hs) fun vs σ H Q h => by
  obtain ⟨α, F, env, cs, ds, rc, ev, r, env', e, q⟩ := h
  cases ds with
  | nil => cases e
  | cons d ds =>
    obtain ⟨v, s, rfl, r1, r2⟩ := r
    have e' : (g d env cs).bind (fun env' => Mi.gAll gs ds env' cs) = some env' := e
    cases e1 : g d env cs with
    | none => rw [e1] at e'; cases e'
    | some env1 =>
      rw [e1] at e'
      exact ⟨v, s, rfl, α, F, env, cs, d, rc, ev, r1, env1, e1, fun σ' ev' => ⟨α, F, env1, cs, ds, rc, ev', r2, env', e', q⟩⟩
theorem gAll_len : ∀ {gs : List Mi.G} {ds : List Mi.D} {env env' : Mi.Env} {cs : Mi.Cs}, Mi.gAll gs ds env cs = some env' → ds.length = gs.length
  | [], [], _, _, _, _ => rfl
  | g :: gs, d :: ds, env, env', cs, h => by
    have h' : (g d env cs).bind (fun env' => Mi.gAll gs ds env' cs) = some env' := h
    cases e : g d env cs with
    | none => rw [e] at h'; cases h'
    | some env1 =>
      rw [e] at h'
      rw [List.length_cons, List.length_cons, gAll_len h']
  | [], _ :: _, _, _, _, h => by cases h
  | _ :: _, [], _, _, _, h => by cases h
theorem bg_tup {gs : List Mi.G} {k} (hc : X.calm = true) (h : PGs X es (MGs X.K T gs)) (hn : (assignEach es X.env).length = gs.length := by rfl) (hst : (assignEach es X.env).findIdx? (·.1) = none := by rfl) : PG X (.Tuple es k pos) (MG X.K T (Mi.gT gs)) := by
  refine PG.imp (pg_tup (n := gs.length) hc h hn hst) fun v σ H Q h => ?_
  obtain ⟨α, F, env, cs, d, rc, ev, r, env', e, q⟩ := h
  cases d <;> try cases e
  rename_i ds
  obtain ⟨a, vs, rfl, s, r⟩ := r
  exact ⟨a, vs, rfl, same_sqT rc.same s, by rw [r.length]; exact gAll_len e, α, F, env, cs, ds, rc, ev, r, env', e, q⟩
theorem bs_asg {e : Expr} {g : Mi.G} (he : PE X e (MV X.K T W ea)) (hg : PG X tg (MG X.K T g)) (hs : swapsWithSole [tg] e pos.line X.env = pure false := by rfl) (hw : swappedStores [tg] e X.env = pure none := by rfl) (h1 : (assignEach [tg] X.env).map (·.2) = [assign tg X.env] := by rfl) : PS X (.Assign [tg] e pos) (MS X.K T W (Mi.sAsg g ea)) :=
  PS.imp (ps_asg he hg hs hw h1) fun D σ H h => by
    obtain ⟨α, F, env, cs, rc, ev, h⟩ := h
    refine ⟨α, F, env, cs, rc, ev, (OutS.thn ev h).mono fun α1 F1 cs1 H1 d lt1 rc1 o1 v r1 => ?_⟩
    cases q : g d env cs1 with
    | none => rw [q] at o1; exact o1.elim
    | some env' =>
      rw [q] at o1
      exact ⟨α1, F1, env, cs1, d, rc1, ev.mono lt1.toLt, r1, env', q, fun σ' ev' => OutS.nx o1 rc1 ev'⟩
theorem bs_par {i j : Nat} {x y : Str} {px py pt : Pos} {kt k2 pt2} (hc : X.calm = true) (hN : X.N.Nodup) (hi : X.N[i]? = some x) (hj : X.N[j]? = some y) (hij : i ≠ j) (hx : X.env.scope.names.lookup x = some .local) (hy : X.env.scope.names.lookup y = some .local)
    (ha : PE X a (MV X.K T W ea)) (hb : PE X b (MV X.K T W eb)) (na : starEach [a, b] X.env = (false, eval a X.env) :: starEach [b] X.env := by rfl) (nb : starEach [b] X.env = (false, eval b X.env) :: starEach [] X.env := by rfl)
    (hp : ∀ {t : TA}, PA X [a, b] t → PS X (.Assign [.Tuple [.Name x px, .Name y py] kt pt] (.Tuple [a, b] k2 pt2) pos) (tPar i j t)) : PS X (.Assign [.Tuple [.Name x px, .Name y py] kt pt] (.Tuple [a, b] k2 pt2) pos) (MS X.K T W (Mi.sPar i j ea eb)) :=
  PS.imp (hp (pa_cons ha (pa_cons hb pa_nil nb) na)) fun D σ H h => by
    obtain ⟨α, F, env, cs, rc, ev, h⟩ := h
    refine ⟨α, F, env, cs, rc, ev, (OutS.thn ev h).mono fun α1 F1 cs1 H1 d lt1 rc1 o1 v r1 => ?_⟩
    have ev1 := ev.mono lt1.toLt
    refine ⟨α1, F1, env, cs1, rc1, ev1, (OutS.thn ev1 o1).mono fun α2 F2 cs2 H2 d2 lt2 rc2 o2 v2 r2 => ?_⟩
    exact ⟨v, v2, rfl, OutS.nx o2 rc2 (((ev1.mono lt2.toLt).set (Rp.mono lt2.toLt _ _ r1) i).set r2 j)⟩

theorem ms_for {K : PySem.W.Frag} {it : Mi.I} {g : Mi.G} {s : Mi.S} (D : Ends) (σ : L2.St) (H : Hp) (h : MS K T W (Mi.sFor it g s) D σ H) : tFor (MI K T W it) (MG K T g) (MS K T W s) D σ H := by
  obtain ⟨α, F, env, cs, rc, ev, h⟩ := h
  refine ⟨α, F, env, cs, rc, ev, (OutS.thn ev h).mono fun α1 F1 cs1 H1 w lt1 rc1 o1 J hJ => ?_⟩
  refine ⟨fun i m σ H => ∃ α2 F2 env2 cs2, Nx α1 F1 H1 α2 F2 H ∧ RC K T α2 F2 cs2 H ∧ Ev K T α2 F2 env2 σ ∧ m = w.items.length - i ∧ i ≤ w.items.length ∧ OutS K T W α2 F2 H D (Mi.forL g s w.chk (w.items.drop i) env2 cs2),
    ⟨w.items.length, α1, F1, env, cs1, Nx.refl _ _ _, rc1, ev.mono lt1.toLt, by omega, Nat.zero_le _, o1⟩, ?_⟩
  rintro i m σ2 H2 ⟨α2, F2, env2, cs2, nx2, rc2, ev2, rfl, hi, o2⟩
  by_cases hlt : i < w.items.length
  · have hd : w.items.drop i = w.items[i] :: w.items.drop (i + 1) := List.drop_eq_getElem_cons hlt
    rw [hd] at o2
    unfold Mi.forL at o2
    by_cases hc : w.chk cs2 = true
    · rw [if_pos hc] at o2
      obtain ⟨hgo, hy⟩ := (hJ i α2 F2 cs2 H2 nx2 rc2 hc).1 w.items[i] (List.getElem?_eq_getElem hlt)
      refine .inr ⟨hgo, fun σ3 H3 => ∃ α3 F3 env3 cs3, Nx α1 F1 H1 α3 F3 H3 ∧ RC K T α3 F3 cs3 H3 ∧ Ev K T α3 F3 env3 σ3 ∧ OutS K T W α3 F3 H3 D (Mi.forL g s w.chk (w.items.drop (i + 1)) env3 cs3), ?_, fun x H3 y => ?_⟩
      · rintro σ3 H3 ⟨α3, F3, env3, cs3, nx3, rc3, ev3, o3⟩
        exact ⟨w.items.length - (i + 1), by omega, α3, F3, env3, cs3, nx3, rc3, ev3, rfl, by omega, o3⟩
      · obtain ⟨F3, nx3, rc3, r3⟩ := hy x H3 y
        cases eg : g w.items[i] env2 cs2 with
        | none => rw [eg] at o2; exact o2.elim
        | some env3 =>
          rw [eg] at o2
          dsimp only at o2
          have o2 := OutS.later nx3 o2
          refine ⟨α2, F3, env2, cs2, w.items[i], rc3, ev2.mono nx3.toLt, r3, env3, eg, fun σ4 ev4 => ⟨α2, F3, env3, cs2, rc3, ev4, ?_⟩⟩
          cases eb : s env3 cs2 with
          | none => rw [eb] at o2; exact o2.elim
          | some ob =>
            rw [eb] at o2
            cases ob with
            | nx env5 cs5 => exact fun α5 F5 H5 σ5 nx5 rc5 ev5 => ⟨α5, F5, env5, cs5, (nx2.trans nx3).trans nx5, rc5, ev5, OutS.later nx5 o2⟩
            | ct env5 cs5 => exact fun α5 F5 H5 σ5 nx5 rc5 ev5 => ⟨α5, F5, env5, cs5, (nx2.trans nx3).trans nx5, rc5, ev5, OutS.later nx5 o2⟩
            | bk env5 cs5 => exact o2
            | rt d cs5 => exact o2
            | x c env5 cs5 => exact o2
    · rw [if_neg hc] at o2
      exact o2.elim
  · have e : i = w.items.length := by omega
    have hd : w.items.drop i = [] := List.drop_eq_nil_of_le (by omega)
    rw [hd] at o2
    unfold Mi.forL at o2
    by_cases hc : w.chk cs2 = true
    · rw [if_pos hc] at o2
      exact .inl ⟨(hJ i α2 F2 cs2 H2 nx2 rc2 hc).2 (List.getElem?_eq_none (by omega)), OutS.nx o2 rc2 ev2⟩
    · rw [if_neg hc] at o2
      exact o2.elim
theorem bs_for {iter : Expr} {body : List Stmt} {it : Mi.I} {g : Mi.G} {s : Mi.S} (hp : PassesOwn (model X.prog X.w) X.A X.env X.xe) (hc : X.calm = true) (hi : PI X tg iter (MI X.K T W it)) (hg : PG X tg (MG X.K T g)) (hb : PSs X body (MS X.K T W s))
    (hs : ∀ x, foldedSetIterable iter X.env x = pure x := by intro _; rfl) : PS X (.For tg iter body [] pos) (MS X.K T W (Mi.sFor it g s)) := PS.imp (ps_for hp hc hi hg hb hs) ms_for
theorem ms_while {K : PySem.W.Frag} {t : Mi.E} {s : Mi.S} (D : Ends) (σ : L2.St) (H : Hp) (h : MS K T W (Mi.sWhile t s) D σ H) : tWhile (MT K T W t) (MS K T W s) D σ H := by
  obtain ⟨α, F, env, cs, rc, ev, h⟩ := h
  refine ⟨fun m σ H => MS K T W (Mi.whileL t s m) D σ H, ⟨Mi.FUEL, α, F, env, cs, rc, ev, h⟩, ?_⟩
  rintro m σ2 H2 ⟨α2, F2, env2, cs2, rc2, ev2, o2⟩
  cases m with
  | zero => exact o2.elim
  | succ m =>
    refine ⟨α2, F2, env2, cs2, rc2, ev2, (OutS.thn ev2 (show OutS K T W α2 F2 H2 D (Mi.thn env2 (t env2 cs2) _) from o2)).mono fun α3 F3 cs3 H3 d lt3 rc3 o3 => ?_⟩
    cases d <;> try exact o3.elim
    rename_i k
    refine ⟨k, rfl, ?_⟩
    have ev3 := ev2.mono lt3.toLt
    cases k with
    | false => exact OutS.nx o3 rc3 ev3
    | true =>
      refine ⟨fun σ H => MS K T W (Mi.whileL t s m) D σ H, fun σ' H' h' => ⟨m, Nat.lt_succ_self _, h'⟩, α3, F3, env2, cs3, rc3, ev3, ?_⟩
      have o3' : OutS K T W α3 F3 H3 D (match s env2 cs3 with
        | some (.nx env' cs') => Mi.whileL t s m env' cs'
        | some (.ct env' cs') => Mi.whileL t s m env' cs'
        | some (.bk env' cs') => some (.nx env' cs')
        | o => o) := o3
      cases eb : s env2 cs3 with
      | none => rw [eb] at o3'; exact o3'.elim
      | some ob =>
        rw [eb] at o3'
        cases ob with
        | nx env5 cs5 => exact fun α5 F5 H5 σ5 nx5 rc5 ev5 => ⟨α5, F5, env5, cs5, rc5, ev5, OutS.later nx5 o3'⟩
        | ct env5 cs5 => exact fun α5 F5 H5 σ5 nx5 rc5 ev5 => ⟨α5, F5, env5, cs5, rc5, ev5, OutS.later nx5 o3'⟩
        | bk env5 cs5 => exact o3'
        | rt d cs5 => exact o3'
        | x c env5 cs5 => exact o3'
theorem bs_while {body : List Stmt} {t : Mi.E} {s : Mi.S} (hp : PassesOwn (model X.prog X.w) X.A X.env X.xe) (hc : PT X c (MT X.K T W t)) (hb : PSs X body (MS X.K T W s)) : PS X (.While c body [] pos) (MS X.K T W (Mi.sWhile t s)) := PS.imp (ps_while hp hc hb) ms_while
end
end Br
end
section
set_option Elab.async false
set_option linter.all false
set_option maxRecDepth 100000
set_option maxHeartbeats 4000000
namespace Br
open PySem PySem.Spec PyProof.Rows L2
abbrev W0 : WX := fun _ _ _ _ => False

section
variable {K : PySem.W.Frag} {T : Tab} {W : WX}
theorem wipe_len (σ : L2.St) : ∀ vs : List Nat, (L2.wipe σ vs).length = σ.length := L2.wipe_length σ
theorem wipe_set {σ : L2.St} {i : Nat} {x : Option V} : ∀ {vs : List Nat}, i ∈ vs → L2.wipe (σ.set i x) vs = L2.wipe σ vs
  | v :: vs, h => by
    unfold L2.wipe
    by_cases hv : i ∈ vs
    · rw [wipe_set hv]
    · have e : v = i := by
        rcases List.mem_cons.mp h with h | h
        · exact h.symm
        · exact (hv h).elim
      subst e
      rw [wipe_out hv, List.set_set]
where
  wipe_out {σ : L2.St} {i : Nat} {x : Option V} : ∀ {vs : List Nat}, i ∉ vs → L2.wipe (σ.set i x) vs = (L2.wipe σ vs).set i x
  | [], _ => rfl
  | v :: vs, h => by
    unfold L2.wipe
    rw [wipe_out (fun z => h (List.mem_cons_of_mem _ z)), List.set_comm _ _ (fun z => h (by rw [z]; exact List.mem_cons_self))]
end
def MC (K : PySem.W.Frag) (T : Tab) (vs : List Nat) (g : Mi.G) : TG := fun v σ H Q => ∃ α F env cs d, RC K T α F cs H ∧ Ev K T α F env σ ∧ Rp K T α F d v ∧ ∃ env', g d env cs = some env' ∧ ∀ σ', Ev K T α F env' σ' → L2.wipe σ' vs = L2.wipe σ vs → Q σ' H
def MCs (K : PySem.W.Frag) (T : Tab) (ws : List Nat) (gs : List Mi.G) : TGs := fun vs σ H Q => ∃ α F env cs ds, RC K T α F cs H ∧ Ev K T α F env σ ∧ Rps K T α F ds vs ∧ ∃ env', Mi.gAll gs ds env cs = some env' ∧ ∀ σ', Ev K T α F env' σ' → L2.wipe σ' ws = L2.wipe σ ws → Q σ' H
section
variable {X : Cx} {T : Tab} {W : WX} {a b c o tg : Expr} {ea eb ec : Mi.E} {l : Mi.EL} {es rest : List Expr} {pos apos cpos p : Pos}
theorem cg_name {i : Nat} {x : Str} {ws : List Nat} (hw : i ∈ ws) (hN : X.N.Nodup) (hi : X.N[i]? = some x) (hx : Loc X.env.scope x) (hf : X.fn x = true ∨ X.env.scope.names.lookup x = some .local := by first | exact .inl rfl | exact .inr rfl | assumption) : PG X (.Name x pos) (MC X.K T ws (Mi.gN i)) :=
  PG.imp (pg_name hN hi hx hf) fun v σ H Q h => by
    obtain ⟨α, F, env, cs, d, rc, ev, r, env', e, q⟩ := h
    cases e
    exact q _ (ev.set r i) (wipe_set hw)
theorem cgs_nil {ws : List Nat} : PGs X [] (MCs X.K T ws []) := PGs.imp pgs_nil fun vs σ H Q h => by
  obtain ⟨α, F, env, cs, ds, rc, ev, r, env', e, q⟩ := h
  cases ds with
  | nil =>
    cases e
    exact ⟨r, q _ ev rfl⟩
  | cons d ds => cases e
theorem cgs_cons {ws : List Nat} {g : Mi.G} {gs : List Mi.G} {t : Expr} {ts : List Expr} (h1 : PG X t (MC X.K T ws g)) (h2 : PGs X ts (MCs X.K T ws gs)) (hs : (assignEach (t :: ts) X.env).map (·.2) = assign t X.env :: (assignEach ts X.env).map (·.2) := by rfl) : PGs X (t :: ts) (MCs X.K T ws (g :: gs)) := PGs.imp (pgs_cons h1 h2 hs) fun vs σ H Q h => by
  obtain ⟨α, F, env, cs, ds, rc, ev, r, env', e, q⟩ := h
  cases ds with
  | nil => cases e
  | cons d ds =>
    obtain ⟨v, s, rfl, r1, r2⟩ := r
    have e' : (g d env cs).bind (fun env' => Mi.gAll gs ds env' cs) = some env' := e
    cases e1 : g d env cs with
    | none => rw [e1] at e'; cases e'
    | some env1 =>
      rw [e1] at e'
      exact ⟨v, s, rfl, α, F, env, cs, d, rc, ev, r1, env1, e1, fun σ' ev' hw => ⟨α, F, env1, cs, ds, rc, ev', r2, env', e', fun σ2 ev2 hw2 => q σ2 ev2 (hw2.trans hw)⟩⟩
theorem cg_tup {ws : List Nat} {gs : List Mi.G} {k} (hc : X.calm = true) (h : PGs X es (MCs X.K T ws gs)) (hn : (assignEach es X.env).length = gs.length := by rfl) (hst : (assignEach es X.env).findIdx? (·.1) = none := by rfl) : PG X (.Tuple es k pos) (MC X.K T ws (Mi.gT gs)) := by
  refine PG.imp (pg_tup (n := gs.length) hc h hn hst) fun v σ H Q h => ?_
  obtain ⟨α, F, env, cs, d, rc, ev, r, env', e, q⟩ := h
  cases d <;> try cases e
  rename_i ds
  obtain ⟨a, vs, rfl, s, r⟩ := r
  exact ⟨a, vs, rfl, same_sqT rc.same s, by rw [r.length]; exact gAll_len e, α, F, env, cs, ds, rc, ev, r, env', e, q⟩
theorem Ev.len_wipe {K : PySem.W.Frag} {α F env σ} (h : Ev K T α F env σ) (vs : List Nat) : Ev K T α F (Mi.wipe env vs) (L2.wipe σ vs) := h.wipe vs
theorem ml_lc {K : PySem.W.Frag} {it : Mi.I} {g : Mi.G} {t e : Mi.E} {vs : List Nat} (σ : L2.St) (H : Hp) (Q : VK) (h : ML K T W (Mi.lComp vs it g t e) σ H Q) : tLc (MI K T W it) (MC K T vs g) (MT K T W0 t) (MV K T W0 e) vs σ H Q := by
  obtain ⟨α, F, env, cs, rc, ev, h⟩ := h
  refine ⟨α, F, env, cs, rc, ev, h.bnd' fun α1 F1 cs1 H1 w lt1 rc1 o1 J hJ => ?_⟩
  intro D hD
  have hD0 : H D = none := lt1.dom D hD
  obtain ⟨hDf, hDa⟩ := rc1.new_out hD
  have ev1 := (ev.mono lt1.toLt).wipe vs
  
  refine ⟨fun i m H2 => ∃ α2 F2 cs2 acc ws, Nx α1 F1 H1 α2 F2 H2 ∧ RC K T α2 F2 cs2 H2 ∧ H2 D = some (.lst ws) ∧ F2 D = none ∧ D ∉ α2 ∧ Rps K T α2 F2 acc ws ∧ m = w.items.length - i ∧ i ≤ w.items.length ∧
    Out K T W σ α F H (Mi.lcLoop (Mi.wipe env vs) g t e w.chk (w.items.drop i) acc cs2) (fun α' F' _ H' ds => ∀ p vs, H p = none → H' p = some (.lst vs) → F' p = none → p ∉ α' → Rps K T α' F' ds vs → Q (.ref p) H'),
    ⟨w.items.length, α1, F1, cs1, [], [], Nx.alloc hD, rc1.alloc hD, upd_same, hDf, hDa, rfl, by omega, Nat.zero_le _, o1⟩, ?_⟩
  rintro i m H2 ⟨α2, F2, cs2, acc, ws, nx2, rc2, eD, fD, aD, rA, rfl, hi, o2⟩
  have nx02 : Nx α F H α2 F2 H2 := lt1.trans nx2
  by_cases hlt : i < w.items.length
  · have hd : w.items.drop i = w.items[i] :: w.items.drop (i + 1) := List.drop_eq_getElem_cons hlt
    rw [hd] at o2
    unfold Mi.lcLoop at o2
    by_cases hc : w.chk cs2 = true
    · rw [if_pos hc] at o2
      obtain ⟨hgo, hy⟩ := (hJ i α2 F2 cs2 H2 nx2 rc2 hc).1 w.items[i] (List.getElem?_eq_getElem hlt)
      refine .inr ⟨hgo, fun H3 => ∃ α3 F3 cs3 acc3 ws3, Nx α1 F1 H1 α3 F3 H3 ∧ RC K T α3 F3 cs3 H3 ∧ H3 D = some (.lst ws3) ∧ F3 D = none ∧ D ∉ α3 ∧ Rps K T α3 F3 acc3 ws3 ∧
        Out K T W σ α F H (Mi.lcLoop (Mi.wipe env vs) g t e w.chk (w.items.drop (i + 1)) acc3 cs3) (fun α' F' _ H' ds => ∀ p vs, H p = none → H' p = some (.lst vs) → F' p = none → p ∉ α' → Rps K T α' F' ds vs → Q (.ref p) H'), ?_, fun x H3 y => ?_⟩
      · rintro H3 ⟨α3, F3, cs3, acc3, ws3, q1, q2, q3, q4, q5, q6, q7⟩
        exact ⟨w.items.length - (i + 1), by omega, α3, F3, cs3, acc3, ws3, q1, q2, q3, q4, q5, q6, rfl, by omega, q7⟩
      · obtain ⟨F3, nx3, rc3, r3⟩ := hy x H3 y
        obtain ⟨eD3, fD3, aD3⟩ := nx3.fr D _ eD fD aD
        cases eg : g w.items[i] (Mi.wipe env vs) cs2 with
        | none => rw [eg] at o2; exact o2.elim
        | some env3 =>
          rw [eg] at o2
          dsimp only at o2
          refine ⟨α2, F3, Mi.wipe env vs, cs2, w.items[i], rc3, ev1.mono (nx2.trans nx3).toLt, r3, env3, eg, fun σ4 ev4 hw => ⟨by rw [hw]; exact wipe_wipe σ vs, ?_⟩⟩
          refine ⟨α2, F3, env3, cs2, rc3, ev4, ?_⟩
          cases et : t env3 cs2 with
          | none => rw [et] at o2; exact o2.elim
          | some ot =>
            rw [et] at o2
            cases ot with
            | x c cs4 => exact o2.elim
            | v d cs4 =>
              cases d <;> try exact o2.elim
              rename_i k
              intro α4 F4 H4 nx4 rc4
              obtain ⟨eD4, fD4, aD4⟩ := nx4.fr D _ eD3 fD3 aD3
              refine ⟨k, rfl, ?_⟩
              cases k with
              | false =>
                rw [if_neg Bool.false_ne_true]
                exact ⟨α4, F4, cs4, acc, ws, (nx2.trans nx3).trans nx4, rc4, eD4, fD4, aD4, rA.mono' (nx3.trans nx4).toLt, o2⟩
              | true =>
                rw [if_pos rfl]
                dsimp only at o2
                refine ⟨α4, F4, env3, cs4, rc4, ev4.mono nx4.toLt, ?_⟩
                cases ee : e env3 cs4 with
                | none => rw [ee] at o2; exact o2.elim
                | some oe =>
                  rw [ee] at o2
                  cases oe with
                  | x c cs5 => exact o2.elim
                  | v d cs5 =>
                    dsimp only at o2
                    intro α5 F5 H5 nx5 rc5 u r5
                    obtain ⟨eD5, fD5, aD5⟩ := nx5.fr D _ eD4 fD4 aD4
                    by_cases hl : acc.length < Mi.SIZE
                    · rw [if_pos hl] at o2
                      have rA5 := rA.mono' ((nx3.trans nx4).trans nx5).toLt
                      refine ⟨ws, eD5, by rw [rA.length, ← size_eq]; exact hl, ?_⟩
                      have nxD : Nx α1 F1 H1 α5 F5 (upd H5 D (.lst (ws ++ [u]))) := by
                        have q := ((nx2.trans nx3).trans nx4).trans nx5
                        refine ⟨q.toLt, fun b ob e1 e2 e3 => ?_, fun b e1 => ?_⟩
                        · have hb := ne_of_none e1 hD
                          rw [upd_ne hb]
                          exact q.fr b ob e1 e2 e3
                        · by_cases hb : b = D
                          · subst hb
                            exact hD
                          · rw [upd_ne hb] at e1
                            exact q.dom b e1
                      refine ⟨α5, F5, cs5, acc ++ [d], ws ++ [u], nxD, ?_, upd_same, fD5, aD5, rA5.append (Rps.one r5), o2⟩
                      refine ⟨fun b ob e1 => ?_, rc5.len, rc5.nd, rc5.out, fun k a c h1 h2 => ?_⟩
                      · rw [upd_ne (ne_of_none e1 fD5)]
                        exact rc5.same _ _ e1
                      · refine (rc5.ok k a c h1 h2).heap (upd_ne fun z => aD5 ?_)
                        subst z
                        exact List.mem_of_getElem? h1
                    · rw [if_neg hl] at o2
                      exact o2.elim
    · rw [if_neg hc] at o2
      exact o2.elim
  · have e : i = w.items.length := by omega
    have hd : w.items.drop i = [] := List.drop_eq_nil_of_le (by omega)
    rw [hd] at o2
    unfold Mi.lcLoop at o2
    by_cases hc : w.chk cs2 = true
    · rw [if_pos hc] at o2
      exact .inl ⟨(hJ i α2 F2 cs2 H2 nx2 rc2 hc).2 (List.getElem?_eq_none (by omega)), o2 _ _ _ nx02 rc2 D ws hD0 eD fD aD rA⟩
    · rw [if_neg hc] at o2
      exact o2.elim
where
  wipe_wipe (σ : L2.St) : ∀ vs : List Nat, L2.wipe (L2.wipe σ vs) vs = L2.wipe σ vs := fun vs => by
    have aux : ∀ (us vs : List Nat), (∀ i ∈ us, i ∈ vs) → ∀ σ : L2.St, L2.wipe (L2.wipe σ us) vs = L2.wipe σ vs := by
      intro us
      induction us with
      | nil => intro vs _ σ; rfl
      | cons u us ih =>
        intro vs hs σ
        show L2.wipe ((L2.wipe σ us).set u none) vs = _
        rw [wipe_set (hs u List.mem_cons_self), ih vs (fun i hi => hs i (List.mem_cons_of_mem _ hi))]
    exact aux vs vs (fun _ h => h) σ
theorem bl_comp {elt iter : Expr} {ifs : List Expr} {scope : Scope} {own : List (Str × Nat)} {it : Mi.I} {g : Mi.G} {t e : Mi.E} (hc : X.calm = true) (hN : X.N.Nodup) (hi : PI X tg iter (MI X.K T W it)) (ok : BlkOk X.N X.env.scope scope own)
    (hg : ∀ (s : Shared) (H : Hp) (C : Addr) (cl : List (Str × Addr)) (fp : List Addr), PG (X.blk s H scope (compEnvC scope cl C X.env) fp) tg (MC X.K T (own.map (·.2)) g))
    (ht : ∀ (s : Shared) (H : Hp) (C : Addr) (cl : List (Str × Addr)) (fp : List Addr), PTs (X.blk s H scope (compEnvC scope cl C X.env) fp) ifs (MT X.K T W0 t))
    (he : ∀ (s : Shared) (H : Hp) (C : Addr) (cl : List (Str × Addr)) (fp : List Addr), PE (X.blk s H scope (compEnvC scope cl C X.env) fp) elt (MV X.K T W0 e)) (hs : ∀ x, foldedSetIterable iter X.env x = pure x := by intro _; rfl) :
    PE X (.ListComp elt [⟨tg, iter, ifs, 0⟩] scope pos) (ML X.K T W (Mi.lComp (own.map (·.2)) it g t e)) := PE.imp (pe_lc hc hN hi ok hg ht he hs) ml_lc
theorem bts_nil : PTs X [] (MT X.K T W Mi.eYes) := ⟨fun pins s σ H Q I h => by
  obtain ⟨α, F, env, cs, rc, ev, h⟩ := h
  obtain ⟨k, e, q⟩ := h.v (Nx.refl _ _ _) rc
  cases e
  exact pts_nil.run pins s σ H Q I q⟩
theorem bts_one (h : PT X c (MT X.K T W ec)) : PTs X [c] (MT X.K T W ec) := pts_one h
theorem ms_setL {K : PySem.W.Frag} {i : Nat} {e : Mi.EL} {te : TE} (hi : ∀ σ H Q, ML K T W e σ H Q → te σ H Q) (D : Ends) (σ : L2.St) (H : Hp) (h : MS K T W (Mi.sSet i (Mi.eL e)) D σ H) : tAsg te (gName i) D σ H := by
  obtain ⟨α, F, env, cs, rc, ev, h⟩ := h
  refine hi σ H _ ⟨α, F, env, cs, rc, ev, (OutS.thn ev h).bnd' fun α1 F1 cs1 H1 xs lt1 rc1 o1 p vs h0 hp hf ha r1 => ?_⟩
  obtain ⟨rc3, lt3, nx3⟩ := rc1.ground' lt1 h0 hp hf ha
  exact OutS.nx (o1 _ _ _ nx3 rc3) rc3 ((ev.mono nx3.toLt).set (d := .lst xs) (v := .ref p) ⟨p, vs, rfl, upd_same, r1.mono' lt3⟩ i)
theorem ms_setLc {K : PySem.W.Frag} {i : Nat} {e : Mi.EL} {te : TE} (hi : ∀ σ H Q, ML K T W e σ H Q → te σ H Q) (D : Ends) (σ : L2.St) (H : Hp) (h : MS K T W (Mi.sSet i (Mi.eLc e)) D σ H) : tAsg te (gName i) D σ H := by
  obtain ⟨α, F, env, cs, rc, ev, h⟩ := h
  refine hi σ H _ ⟨α, F, env, cs, rc, ev, (OutS.thn ev h).bnd' fun α1 F1 cs1 H1 xs lt1 rc1 o1 p vs h0 hp hf ha r1 => ?_⟩
  obtain ⟨rc3, nx3⟩ := rc1.push lt1 h0 hf ha (c := .lst xs) ⟨vs, hp, r1⟩
  refine OutS.nx (o1 _ _ _ nx3 rc3) rc3 ((ev.mono nx3.toLt).set (d := .cell cs1.length) (v := .ref p) ⟨p, ?_, rfl⟩ i)
  rw [← rc1.len, List.getElem?_append_right (Nat.le_refl _), Nat.sub_self]
  rfl
section
variable {elt iter : Expr} {ifs : List Expr} {scope : Scope} {own : List (Str × Nat)} {it : Mi.I} {g : Mi.G} {t e : Mi.E} {i : Nat} {y : Str} {py spos : Pos}
theorem bs_setComp (hy : X.N[i]? = some y) (hyl : X.env.scope.names.lookup y = some .local) (hsw : swapsWith (.ListComp elt [⟨tg, iter, ifs, 0⟩] scope pos) (some (.Name y py)) spos.line X.env = pure true)
    (hc : X.calm = true) (hN : X.N.Nodup) (hi : PI X tg iter (MI X.K T W it)) (ok : BlkOk X.N X.env.scope scope own)
    (hg : ∀ (s : Shared) (H : Hp) (C : Addr) (cl : List (Str × Addr)) (fp : List Addr), PG (X.blk s H scope (compEnvC scope cl C X.env) fp) tg (MC X.K T (own.map (·.2)) g))
    (ht : ∀ (s : Shared) (H : Hp) (C : Addr) (cl : List (Str × Addr)) (fp : List Addr), PTs (X.blk s H scope (compEnvC scope cl C X.env) fp) ifs (MT X.K T W0 t))
    (he : ∀ (s : Shared) (H : Hp) (C : Addr) (cl : List (Str × Addr)) (fp : List Addr), PE (X.blk s H scope (compEnvC scope cl C X.env) fp) elt (MV X.K T W0 e)) (hs : ∀ x, foldedSetIterable iter X.env x = pure x := by intro _; rfl) :
    PS X (.Assign [.Name y py] (.ListComp elt [⟨tg, iter, ifs, 0⟩] scope pos) spos) (MS X.K T W (Mi.sSet i (Mi.eL (Mi.lComp (own.map (·.2)) it g t e)))) := PS.imp (ps_setLc hc hN hy hyl hsw hi ok hg ht he hs) (ms_setL ml_lc)
theorem bs_setCompC (hy : X.N[i]? = some y) (hyl : X.env.scope.names.lookup y = some .local) (hsw : swapsWith (.ListComp elt [⟨tg, iter, ifs, 0⟩] scope pos) (some (.Name y py)) spos.line X.env = pure true)
    (hc : X.calm = true) (hN : X.N.Nodup) (hi : PI X tg iter (MI X.K T W it)) (ok : BlkOk X.N X.env.scope scope own)
    (hg : ∀ (s : Shared) (H : Hp) (C : Addr) (cl : List (Str × Addr)) (fp : List Addr), PG (X.blk s H scope (compEnvC scope cl C X.env) fp) tg (MC X.K T (own.map (·.2)) g))
    (ht : ∀ (s : Shared) (H : Hp) (C : Addr) (cl : List (Str × Addr)) (fp : List Addr), PTs (X.blk s H scope (compEnvC scope cl C X.env) fp) ifs (MT X.K T W0 t))
    (he : ∀ (s : Shared) (H : Hp) (C : Addr) (cl : List (Str × Addr)) (fp : List Addr), PE (X.blk s H scope (compEnvC scope cl C X.env) fp) elt (MV X.K T W0 e)) (hs : ∀ x, foldedSetIterable iter X.env x = pure x := by intro _; rfl) :
    PS X (.Assign [.Name y py] (.ListComp elt [⟨tg, iter, ifs, 0⟩] scope pos) spos) (MS X.K T W (Mi.sSet i (Mi.eLc (Mi.lComp (own.map (·.2)) it g t e)))) := PS.imp (ps_setLc hc hN hy hyl hsw hi ok hg ht he hs) (ms_setLc ml_lc)
end
end
end Br
end
section
set_option Elab.async false
set_option linter.all false
set_option maxRecDepth 100000
set_option maxHeartbeats 4000000
namespace Br
open PySem PySem.Spec PyProof.Rows L2

def spM (K : PySem.W.Frag) (T : Tab) (f : Mi.Fn) : Sp := fun vs H Q E => ∃ α F cs ds, RC K T α F cs H ∧ Rps K T α F ds vs ∧ Out K T (fun c d _ H => E c d H) [] α F H (f ds cs) fun α' F' _ H' d => ∀ v, Rp K T α' F' d v → Q v H'

section
variable {K : PySem.W.Frag} {T : Tab} {W : WX} {α α' β : List Addr} {F F' F'' H H' : Hp} {cs cs' : Mi.Cs}
mutual
theorem Rp.cut (fl : FLe F' F'') (n : Nat) (ha : ∀ (k : Nat) a, k < n → α'[k]? = some a → α[k]? = some a) : ∀ (d : Mi.D) (v : V), d.under n = true → Rp K T α' F' d v → Rp K T α F'' d v
  | .non, _, _, r => r
  | .bl _, _, _, r => r
  | .int _, _, _, r => r
  | .str _, _, _, r => r
  | .tup xs, _, u, r => by
    obtain ⟨a, vs, e, s, q⟩ := r
    simp only [Mi.D.under] at u
    exact ⟨a, vs, e, fl.sqT s, Rps.cut' fl n ha xs vs u q⟩
  | .lst xs, _, u, r => by
    obtain ⟨a, vs, e, s, q⟩ := r
    simp only [Mi.D.under] at u
    exact ⟨a, vs, e, fl.ex _ _ s (fun _ z => nomatch z) (fun _ z => nomatch z), Rps.cut' fl n ha xs vs u q⟩
  | .fro xs, _, u, r => by
    obtain ⟨a, vs, e, s, q⟩ := r
    simp only [Mi.D.under] at u
    exact ⟨a, vs, e, fl.sqL s, Rps.cut' fl n ha xs vs u q⟩
  | .dct ks ws, _, u, r => by
    obtain ⟨a, kvs, e, s, k, q⟩ := r
    simp only [Mi.D.under, Bool.and_eq_true] at u
    exact ⟨a, kvs, e, fl.rd _ _ s, k, Rps.cut' fl n ha ws _ u.2 q⟩
  | .obj c fs, _, u, r => by
    obtain ⟨a, C, dx, nm, gs, e, t, s, k, q⟩ := r
    simp only [Mi.D.under] at u
    exact ⟨a, C, dx, nm, gs, e, t, fl.ex _ _ s (fun _ z => nomatch z) (fun _ z => nomatch z), k, Rps.cut' fl n ha fs _ u q⟩
  | .cell k, _, u, r => by
    obtain ⟨a, e, q⟩ := r
    simp only [Mi.D.under] at u
    exact ⟨a, ha k a (of_decide_eq_true u) e, q⟩
theorem Rps.cut' (fl : FLe F' F'') (n : Nat) (ha : ∀ (k : Nat) a, k < n → α'[k]? = some a → α[k]? = some a) : ∀ (ds : List Mi.D) (vs : List V), Mi.D.unders n ds = true → Rps K T α' F' ds vs → Rps K T α F'' ds vs
  | [], _, _, r => r
  | d :: ds, _, u, r => by
    obtain ⟨v, s, e, p, q⟩ := r
    simp only [Mi.D.unders, Bool.and_eq_true] at u
    exact ⟨v, s, e, Rp.cut fl n ha d v u.1 p, Rps.cut' fl n ha ds s u.2 q⟩
end
theorem COk.cut (fl : FLe F' F'') (n : Nat) (ha : ∀ (k : Nat) a, k < n → α'[k]? = some a → α[k]? = some a) {a : Addr} {c : Mi.Cell} (u : c.under n = true) (r : COk K T α' F' H a c) : COk K T α F'' H a c := by
  cases c with
  | lst xs =>
    obtain ⟨vs, e, q⟩ := r
    exact ⟨vs, e, Rps.cut' fl n ha _ _ u q⟩
  | dct ks ws =>
    obtain ⟨kvs, e, k, q⟩ := r
    have u' : (Mi.D.unders n ks && Mi.D.unders n ws) = true := u
    rw [Bool.and_eq_true] at u'
    exact ⟨kvs, e, k, Rps.cut' fl n ha _ _ u'.2 q⟩
  | obj c fs =>
    obtain ⟨C, dx, nm, gs, t, e, k, q⟩ := r
    exact ⟨C, dx, nm, gs, t, e, k, Rps.cut' fl n ha _ _ u q⟩
theorem COk.under {a : Addr} {c : Mi.Cell} (r : COk K T α F H a c) : c.under α.length = true := by
  cases c with
  | lst xs =>
    obtain ⟨vs, e, q⟩ := r
    exact Rps.unders _ _ q
  | dct ks ws =>
    obtain ⟨kvs, e, k, q⟩ := r
    show (Mi.D.unders α.length ks && Mi.D.unders α.length ws) = true
    rw [Bool.and_eq_true]
    refine ⟨?_, Rps.unders _ _ q⟩
    rw [← k]
    clear q k e
    induction kvs with
    | nil => rfl
    | cons p r ih =>
      rw [List.map_cons]
      simp only [Mi.D.unders, ih, Bool.and_true]
      cases p.1 <;> rfl
  | obj c fs =>
    obtain ⟨C, dx, nm, gs, t, e, k, q⟩ := r
    exact Rps.unders _ _ q
theorem subst_keys {g : Nat → Option Mi.D} : ∀ (kvs : List (Key × V)), Mi.D.substs g (kvs.map fun p => keyD p.1) = some (kvs.map fun p => keyD p.1)
  | [] => rfl
  | p :: r => by
    rw [List.map_cons]
    have e : Mi.D.subst g (keyD p.1) = some (keyD p.1) := by cases p.1 <;> rfl
    simp only [Mi.D.substs, e, subst_keys r, Option.bind_some, Option.map_some]
mutual
theorem Rp.subst {g : Nat → Option Mi.D} (fl : FLe F' F'') (hg : ∀ (k : Nat) a d', α'[k]? = some a → g k = some d' → Rp K T α F'' d' (.ref a)) : ∀ (d d' : Mi.D) (v : V), Mi.D.subst g d = some d' → Rp K T α' F' d v → Rp K T α F'' d' v
  | .non, _, _, e, r => by cases e; exact r
  | .bl _, _, _, e, r => by cases e; exact r
  | .int _, _, _, e, r => by cases e; exact r
  | .str _, _, _, e, r => by cases e; exact r
  | .tup xs, _, _, u, r => by
    obtain ⟨a, vs, e, s, q⟩ := r
    simp only [Mi.D.subst, Option.map_eq_some_iff] at u
    obtain ⟨ys, u1, rfl⟩ := u
    exact ⟨a, vs, e, fl.sqT s, Rps.subst fl hg xs ys vs u1 q⟩
  | .lst xs, _, _, u, r => by
    obtain ⟨a, vs, e, s, q⟩ := r
    simp only [Mi.D.subst, Option.map_eq_some_iff] at u
    obtain ⟨ys, u1, rfl⟩ := u
    exact ⟨a, vs, e, fl.ex _ _ s (fun _ z => nomatch z) (fun _ z => nomatch z), Rps.subst fl hg xs ys vs u1 q⟩
  | .fro xs, _, _, u, r => by
    obtain ⟨a, vs, e, s, q⟩ := r
    simp only [Mi.D.subst, Option.map_eq_some_iff] at u
    obtain ⟨ys, u1, rfl⟩ := u
    exact ⟨a, vs, e, fl.sqL s, Rps.subst fl hg xs ys vs u1 q⟩
  | .dct ks ws, _, _, u, r => by
    obtain ⟨a, kvs, e, s, k, q⟩ := r
    simp only [Mi.D.subst, Option.bind_eq_some_iff, Option.map_eq_some_iff] at u
    obtain ⟨ks', u1, ws', u2, rfl⟩ := u
    rw [← k, subst_keys] at u1
    cases u1
    exact ⟨a, kvs, e, fl.rd _ _ s, rfl, Rps.subst fl hg ws ws' _ u2 q⟩
  | .obj c fs, _, _, u, r => by
    obtain ⟨a, C, dx, nm, gs, e, t, s, k, q⟩ := r
    simp only [Mi.D.subst, Option.map_eq_some_iff] at u
    obtain ⟨ys, u1, rfl⟩ := u
    exact ⟨a, C, dx, nm, gs, e, t, fl.ex _ _ s (fun _ z => nomatch z) (fun _ z => nomatch z), k, Rps.subst fl hg fs ys _ u1 q⟩
  | .cell k, d', _, u, r => by
    obtain ⟨a, e, rfl⟩ := r
    exact hg k a d' e u
theorem Rps.subst {g : Nat → Option Mi.D} (fl : FLe F' F'') (hg : ∀ (k : Nat) a d', α'[k]? = some a → g k = some d' → Rp K T α F'' d' (.ref a)) : ∀ (ds ds' : List Mi.D) (vs : List V), Mi.D.substs g ds = some ds' → Rps K T α' F' ds vs → Rps K T α F'' ds' vs
  | [], _, _, e, r => by cases e; exact r
  | d :: ds, ds', _, u, r => by
    obtain ⟨v, s, e, p, q⟩ := r
    simp only [Mi.D.substs, Option.bind_eq_some_iff, Option.map_eq_some_iff] at u
    obtain ⟨x, u1, xs, u2, rfl⟩ := u
    exact ⟨v, s, e, Rp.subst fl hg d x v u1 p, Rps.subst fl hg ds xs s u2 q⟩
end
def dropped (F H : Hp) (β : List Addr) : Hp := fun b => if b ∈ β then H b else F b
theorem look_ok {n : Nat} (rc : RC K T α' F' cs' H') (fl : FLe F' F'') (hn : ∀ (k : Nat) a, k < n → α'[k]? = some a → α[k]? = some a) (hd : ∀ (k : Nat) a, n ≤ k → α'[k]? = some a → F'' a = H' a) :
    ∀ (f k : Nat) (a : Addr) (d' : Mi.D), α'[k]? = some a → Mi.look n cs' f k = some d' → Rp K T α F'' d' (.ref a) := by
  intro f
  induction f with
  | zero =>
    intro k a d' ea u
    unfold Mi.look at u
    by_cases hk : k < n
    · rw [if_pos hk] at u
      cases u
      exact ⟨a, hn k a hk ea, rfl⟩
    · rw [if_neg hk] at u
      cases u
  | succ f ih =>
    intro k a d' ea u
    unfold Mi.look at u
    by_cases hk : k < n
    · rw [if_pos hk] at u
      cases u
      exact ⟨a, hn k a hk ea, rfl⟩
    · rw [if_neg hk] at u
      cases ec : cs'[k]? with
      | none => rw [ec] at u; cases u
      | some c =>
        rw [ec] at u
        have u : Mi.Cell.subst (Mi.look n cs' f) c = some d' := u
        have hF := hd k a (by omega) ea
        have ok := rc.ok k a c ea ec
        cases c with
        | lst xs =>
          obtain ⟨vs, e, q⟩ := ok
          simp only [Mi.Cell.subst, Option.map_eq_some_iff] at u
          obtain ⟨ys, u1, rfl⟩ := u
          exact ⟨a, vs, rfl, hF.trans e, Rps.subst fl ih xs ys vs u1 q⟩
        | dct ks ws =>
          obtain ⟨kvs, e, k', q⟩ := ok
          simp only [Mi.Cell.subst, Option.bind_eq_some_iff, Option.map_eq_some_iff] at u
          obtain ⟨ks', u1, ws', u2, rfl⟩ := u
          rw [← k', subst_keys] at u1
          cases u1
          exact ⟨a, kvs, rfl, .inl (hF.trans e), rfl, Rps.subst fl ih ws ws' _ u2 q⟩
        | obj c fs =>
          obtain ⟨C, dx, nm, gs, t, e, k', q⟩ := ok
          simp only [Mi.Cell.subst, Option.map_eq_some_iff] at u
          obtain ⟨ys, u1, rfl⟩ := u
          exact ⟨a, C, dx, nm, gs, rfl, t, hF.trans e, k', Rps.subst fl ih fs ys _ u1 q⟩
theorem FLe.of_out (h : ∀ a, F' a ≠ none → F'' a = F' a) : FLe F' F'' := ⟨fun a u r => by
  rcases r with r | ⟨o, r⟩
  · exact .inl ((h a (by rw [r]; exact fun z => nomatch z)).trans r)
  · exact .inr ⟨o, (h a (by rw [r]; exact fun z => nomatch z)).trans r⟩, fun a o r _ _ => (h a (by rw [r]; exact fun z => nomatch z)).trans r⟩
theorem pop_ok (rc : RC K T α F cs H) (nx : Nx α F H α' F' H') (rc' : RC K T α' F' cs' H') (hp : Mi.popOk cs.length cs cs' = true) :
    ∃ F'', Nx α F H α F'' H' ∧ RC K T α F'' (cs'.take cs.length) H' ∧ FLe F' F'' ∧ (∀ (k : Nat) a, k < cs.length → α'[k]? = some a → α[k]? = some a) ∧ ∀ (k : Nat) a, cs.length ≤ k → α'[k]? = some a → F'' a = H' a := by
  obtain ⟨β, rfl⟩ := nx.al
  have hl : α.length = cs.length := rc.len
  have nd := rc'.nd
  have hdis : ∀ a, a ∈ α → a ∉ β := fun a h1 h2 => (List.nodup_append.mp nd).2.2 a h1 a h2 rfl
  have keepF : ∀ a, F' a ≠ none → dropped F' H' β a = F' a := fun a h => by
    unfold dropped
    rw [if_neg]
    intro hb
    exact h (rc'.out a (List.mem_append_right _ hb))
  have fl : FLe F' (dropped F' H' β) := .of_out keepF
  have hget : ∀ (k : Nat) a, k < cs.length → (α ++ β)[k]? = some a → α[k]? = some a := fun k a hk e => by
    rw [List.getElem?_append_left (by omega)] at e
    exact e
  refine ⟨dropped F' H' β, ⟨⟨List.prefix_rfl, nx.fl.trans fl⟩, fun b o h1 h2 h3 => ?_, nx.dom⟩, ⟨fun b o e => ?_, ?_, (List.nodup_append.mp nd).1, fun a ha => ?_, fun k a c h1 h2 => ?_⟩, fl, hget, fun k a hk e => ?_⟩
  · obtain ⟨q1, q2, q3⟩ := nx.fr b o h1 h2 h3
    refine ⟨q1, ?_, h3⟩
    unfold dropped
    rw [if_neg (fun z => q3 (List.mem_append_right _ z))]
    exact q2
  · unfold dropped at e
    by_cases hb : b ∈ β
    · rw [if_pos hb] at e
      exact e
    · rw [if_neg hb] at e
      exact rc'.same _ _ e
  · have := rc'.len
    rw [List.length_append] at this
    rw [List.length_take]
    omega
  · unfold dropped
    rw [if_neg (hdis a ha)]
    exact rc'.out a (List.mem_append_left _ ha)
  · have hk : k < cs.length := by rw [← hl]; exact (List.getElem?_eq_some_iff.mp h1).1
    rw [List.getElem?_take_of_lt hk] at h2
    have h3 : (α ++ β)[k]? = some a := by
      rw [List.getElem?_append_left (by omega)]
      exact h1
    have ok := rc'.ok k a c h3 h2
    have hu : c.under cs.length = true := by
      have hpk := List.all_eq_true.mp hp k (List.mem_range.mpr hk)
      rw [Bool.or_eq_true] at hpk
      rcases hpk with q | q
      · rw [eqCell_of q] at h2
        rw [← hl]
        exact (rc.ok k a c h1 h2).under
      · rw [h2] at q
        exact q
    exact ok.cut fl cs.length hget hu
  · unfold dropped
    rw [if_pos]
    rw [List.getElem?_append_right (by omega)] at e
    exact List.mem_of_getElem? e
theorem spM_pop {f : Mi.Fn} (vs : List V) (H : Hp) (Q : VK) (E : XK) (h : spM K T (Mi.popped f) vs H Q E) : spM K T f vs H Q E := by
  obtain ⟨α, F, cs, ds, rc, r, h⟩ := h
  refine ⟨α, F, cs, ds, rc, r, ?_⟩
  unfold Mi.popped at h
  cases e : f ds cs with
  | none => rw [e] at h; exact h.elim
  | some o =>
    rw [e] at h
    cases o with
    | v d cs' =>
      intro α' F' H' nx rc' v rv
      dsimp only at h
      by_cases hp : Mi.popOk cs.length cs cs' = true
      · rw [if_pos hp] at h
        obtain ⟨F'', nx2, rc2, fl, g1, g2⟩ := pop_ok rc nx rc' hp
        cases ed : Mi.frozen cs.length cs' d with
        | none => rw [ed] at h; exact h.elim
        | some d' =>
          rw [ed] at h
          exact h α F'' H' nx2 rc2 v (Rp.subst fl (fun k a d'' h1 h2 => look_ok rc' fl g1 g2 _ k a d'' h1 h2) d d' v ed rv)
      · rw [if_neg hp] at h
        exact h.elim
    | x c cs' =>
      intro α' F' H' C nm nx rc' t
      dsimp only at h
      by_cases hp : Mi.popOk cs.length cs cs' = true
      · rw [if_pos hp] at h
        obtain ⟨F'', nx2, rc2, fl, g1, g2⟩ := pop_ok rc nx rc' hp
        exact h α F'' H' C nm nx2 rc2 t
      · rw [if_neg hp] at h
        exact h.elim
end

section
variable {X : Cx} {T : Tab} {W : WX} {k : Nat} {f C : Addr} {fd : FuncData} {ps : List Str} {g : Mi.Fn} {x m : Str} {p pos apos : Pos} {e o : Expr} {es : List Expr} {l : Mi.EL} {ea : Mi.E}
theorem Out.at {K : PySem.W.Frag} {A : Type} {σ : L2.St} {α F H} {mm : Option (Mi.R A)} {kk : List Addr → Hp → Mi.Cs → Hp → A → Prop} (h : Out K T W σ α F H mm kk) : Out K T (fun c d _ H => WE W σ c d H) [] α F H mm kk := by
  match mm, h with
  | some (.v a cs), h => exact h
  | some (.x c cs), h => exact h
theorem FnOk.pop {P : Program} {w : World} {K : PySem.W.Frag} {mg : Str → Option Value} {base : Heap} {CX : CXT} (F : FnOk P w K mg base CX k f fd ps (spM K T g)) : FnOk P w K mg base CX k f fd ps (spM K T (Mi.popped g)) := F.imp spM_pop
theorem ma_call {K : PySem.W.Frag} (σ : L2.St) (H : Hp) (Q : VK) (h : MV K T W (Mi.call g l) σ H Q) : tCallS (spM K T g) (WE W) (MA K T W l) σ H Q := by
  obtain ⟨α, F, env, cs, rc, ev, h⟩ := h
  exact ⟨α, F, env, cs, rc, ev, h.bnd.mono fun α1 F1 cs1 H1 xs lt1 rc1 o1 vs r1 => ⟨α1, F1, cs1, xs, rc1, r1, o1.at⟩⟩
theorem br_call (F : FnOk X.prog X.w X.K X.mg X.base (L2.CX X.prog X.w) k f fd ps (spM X.K T g)) (hr : Room k X.A) (hg : Gl X x) (hm : X.mg x = some (.ref f)) (hk : PySem.W.keepIn X.K (.ref f) = true) (hb : Binds X.K fd ps []) (tk : Takes X W) (ha : PA X (e :: es) (MA X.K T W l))
    (hdb : (x == ("__debug__" : Str)) = false := by decide) (he : starEach (e :: es) X.env = (false, eval e X.env) :: starEach es X.env := by rfl) (hpl : (backTo pos (starEach es X.env)).any (·.1) = false := by rfl) : PE X (.Call (.Name x p) (e :: es) [] pos) (MV X.K T W (Mi.call g l)) :=
  PE.imp (pe_callS F hr hg hm hk hb (fun σ => passAt tk σ) ha hdb he hpl) ma_call
end

section
variable {P : Program} {w : World} {K : PySem.W.Frag} {T : Tab} {mg : Str → Option Value} {base : Heap}
theorem rps_start {α F} {ds : List Mi.D} {vs : List V} (r : Rps K T α F ds vs) (n : Nat) : Ev K T α F (ds.map some ++ List.replicate n none) (vs.map some ++ List.replicate n none) := by
  refine ⟨by simp [r.length], fun i d e => ?_⟩
  by_cases hi : i < ds.length
  · rw [List.getElem?_append_left (by simpa using hi), List.getElem?_map] at e
    cases q : ds[i]? with
    | none => rw [q] at e; cases e
    | some d' =>
      rw [q] at e
      cases e
      obtain ⟨v, hv, rv⟩ := r.get q
      refine ⟨v, ?_, rv⟩
      rw [List.getElem?_append_left (by simpa [r.length] using hi), List.getElem?_map, hv]
      rfl
  · rw [List.getElem?_append_right (by simpa using hi), List.getElem?_replicate] at e
    split at e <;> cases e
theorem br_def {x qual : Str} {st : Stmt} {f : Addr} {fd : FuncData} {N ps : List Str} {k : Nat} {b : Mi.S} (F : Fun K x qual st f fd) (S : FnScope N ps (defScope st))
    (hbody : ∀ (cdv : Value) (A : Around) (outer : List Env) (s : Shared) (H : Hp) (E : XK), Room k (A.deeper (envOfC qual (defScope st) s.heap.objs.size f cdv)) →
      PSs (cxOf (L2.CX P w) P w K mg base N qual (defScope st) f cdv A outer s H E) (defBody st) (MS K T (fun cls d _ H => E cls d H) b)) :
    FnOk P w K mg base (L2.CX P w) (k + 1) f fd ps (spM K T (Mi.fn ps.length N.length b)) := by
  have hlen : ∀ vs H Q E, spM K T (Mi.fn ps.length N.length b) vs H Q E → vs.length = ps.length := fun vs H Q E h => by
    obtain ⟨α, F, cs, ds, rc, r, h⟩ := h
    rw [r.length]
    by_cases hl : ds.length = ps.length
    · exact hl
    · unfold Mi.fn at h
      rw [if_neg hl] at h
      exact h.elim
  refine F.okX S hlen fun cdv A outer s H vs Q E hr h => ⟨_, hbody cdv A outer s H E hr, ?_⟩
  have hl := hlen vs H Q E h
  obtain ⟨α, F, cs, ds, rc, r, h⟩ := h
  refine ⟨α, F, _, cs, rc, rps_start r (N.length - vs.length), ?_⟩
  have hd : ds.length = ps.length := by rw [← r.length]; exact hl
  unfold Mi.fn at h
  rw [if_pos hd] at h
  rw [hl]
  cases e : b (ds.map some ++ List.replicate (N.length - ps.length) none) cs with
  | none => rw [e] at h; exact h.elim
  | some o =>
    rw [e] at h
    cases o with
    | nx env' cs' => exact fun α' F' H' σ' nx rc' _ => h α' F' H' nx rc' .non rfl
    | rt d cs' => exact fun α' F' H' v nx rc' rv => h α' F' H' nx rc' v rv
    | bk env' cs' => exact h.elim
    | ct env' cs' => exact h.elim
    | x c env' cs' => exact fun α' F' H' σ' C nm nx rc' _ t => h α' F' H' C nm nx rc' t
end
end Br
end
section
set_option Elab.async false
set_option linter.all false
set_option maxRecDepth 100000
set_option maxHeartbeats 4000000
namespace Br
open PySem PySem.Spec PyProof.Rows L2
section
variable {X : Cx} {T : Tab} {W : WX} {a b c o tg : Expr} {ea eb ec : Mi.E} {l : Mi.EL} {es rest : List Expr} {pos apos cpos p p2 : Pos}
def MO (K : PySem.W.Frag) (T : Tab) (W : WX) (e : Option Mi.E) : TO := fun σ H Q => ∃ α F env cs, RC K T α F cs H ∧ Ev K T α F env σ ∧ Out K T W σ α F H (Mi.partE e env cs) fun _ _ _ H' i => Q i H'
theorem PO.imp {X : Cx} {e : Option Expr} {t t' : TO} (h : PO X e t) (i : ∀ σ H Q, t' σ H Q → t σ H Q) : PO X e t' := ⟨fun pins s σ H Q I q => h.run pins s σ H Q I (i σ H Q q)⟩
theorem bo_none : PO X none (MO X.K T W none) := PO.imp po_none fun σ H Q h => by
  obtain ⟨α, F, env, cs, rc, ev, h⟩ := h
  exact h.v (Nx.refl _ _ _) rc
theorem bo_some {e : Expr} (h : PE X e (MV X.K T W ea)) : PO X (some e) (MO X.K T W (some ea)) := PO.imp (po_some h) fun σ H Q h => by
  obtain ⟨α, F, env, cs, rc, ev, h⟩ := h
  refine ⟨α, F, env, cs, rc, ev, h.bnd.mono fun α1 F1 cs1 H1 x lt1 rc1 o1 v r1 => ?_⟩
  obtain ⟨z, e, q⟩ := o1.out rc1
  unfold Mi.partOf at e
  split at e
  · rename_i h0
    cases h0
  · rename_i i h0
    cases h0
    cases e
    exact ⟨i, r1, q⟩
  · cases e
theorem bl_cut {lo hi : Option Expr} {el eh : Option Mi.E} (ha : PE X a (MV X.K T W ea)) (hl : PO X lo (MO X.K T W el)) (hh : PO X hi (MO X.K T W eh)) : PE X (.Subscript a (.Slice lo hi none p2) pos) (ML X.K T W (Mi.lCut ea el eh)) :=
  PE.imp (pe_slice sl_list ha hl hh) fun σ H Q h => by
    obtain ⟨α, F, env, cs, rc, ev, h⟩ := h
    refine ⟨α, F, env, cs, rc, ev, h.bnd.mono fun α1 F1 cs1 H1 x lt1 rc1 o1 v r1 => ?_⟩
    refine ⟨α1, F1, env, cs1, rc1, ev.mono lt1.toLt, o1.bnd.mono fun α2 F2 cs2 H2 i lt2 rc2 o2 => ?_⟩
    refine ⟨α2, F2, env, cs2, rc2, ev.mono (lt1.trans lt2).toLt, o2.bnd.mono fun α3 F3 cs3 H3 j lt3 rc3 o3 => ?_⟩
    obtain ⟨xs, e, _⟩ := o3.out rc3
    rw [e] at o3
    cases e2 : Mi.lstOf cs3 x with
    | none => rw [e2] at e; cases e
    | some ys =>
      rw [e2] at e
      cases e
      obtain ⟨q, vs, rfl, s, r⟩ := lstOf_of rc3 (Rp.mono (lt2.trans lt3).toLt _ _ r1) e2
      refine ⟨q, vs, rfl, s, fun p hp => ?_⟩
      obtain ⟨hf, ha⟩ := rc3.new_out hp
      exact o3.v (Nx.alloc hp) (rc3.alloc hp) p _ (((lt1.trans lt2).trans lt3).dom p hp) upd_same hf ha r.cut
theorem bl_back {k p1 p3 p4} (ha : PE X a (MV X.K T W ea)) : PE X (.Subscript a (.Slice none none (some (.UnaryOp .USub (.Constant (.int 1) k p1) p3)) p4) pos) (ML X.K T W (Mi.lBack ea)) := PE.imp (pe_revL ha) fun σ H Q h => by
  obtain ⟨α, F, env, cs, rc, ev, h⟩ := h
  refine ⟨α, F, env, cs, rc, ev, h.bnd.mono fun α1 F1 cs1 H1 x lt1 rc1 o1 v r1 => ?_⟩
  obtain ⟨xs, e, _⟩ := o1.out rc1
  rw [e] at o1
  cases e2 : Mi.lstOf cs1 x with
  | none => rw [e2] at e; cases e
  | some ys =>
    rw [e2] at e
    cases e
    obtain ⟨q, vs, rfl, s, r⟩ := lstOf_of rc1 r1 e2
    refine ⟨q, vs, rfl, s, fun p hp => ?_⟩
    obtain ⟨hf, ha⟩ := rc1.new_out hp
    exact o1.v (Nx.alloc hp) (rc1.alloc hp) p _ (lt1.dom p hp) upd_same hf ha r.reverse
theorem bl_add (ha : PE X a (MV X.K T W ea)) (hb : PE X b (MV X.K T W eb)) : PE X (.BinOp a .Add b pos) (ML X.K T W (Mi.lAdd ea eb)) := PE.imp (pe_op op_cat ha hb) fun σ H Q h => by
  obtain ⟨α, F, env, cs, rc, ev, h⟩ := h
  refine ⟨α, F, env, cs, rc, ev, h.bnd.mono fun α1 F1 cs1 H1 x lt1 rc1 o1 v r1 => ?_⟩
  refine ⟨α1, F1, env, cs1, rc1, ev.mono lt1.toLt, o1.bnd.mono fun α2 F2 cs2 H2 y lt2 rc2 o2 w r2 => ?_⟩
  obtain ⟨xs, e, _⟩ := o2.out rc2
  rw [e] at o2
  simp only [Option.bind_eq_some_iff] at e
  obtain ⟨xs1, e1, ys1, e2, e3⟩ := e
  by_cases hl : xs1.length + ys1.length ≤ Mi.SIZE
  · rw [if_pos hl] at e3
    cases e3
    obtain ⟨q, vs, rfl, s, r⟩ := ownOf_of rc2 (Rp.mono lt2.toLt _ _ r1) e1
    obtain ⟨q2, vs2, rfl, s2, r2⟩ := ownOf_of rc2 r2 e2
    refine ⟨q, q2, vs, vs2, rfl, rfl, s, s2, by rw [r.length, r2.length, ← size_eq]; exact hl, fun p hp => ?_⟩
    obtain ⟨hf, ha⟩ := rc2.new_out hp
    exact o2.v (Nx.alloc hp) (rc2.alloc hp) p _ ((lt1.trans lt2).dom p hp) upd_same hf ha (r.append r2)
  · rw [if_neg hl] at e3
    cases e3
theorem Rps.rep {K : PySem.W.Frag} {α F} {ds : List Mi.D} {vs : List V} (r : Rps K T α F ds vs) : ∀ n : Nat, Rps K T α F (List.flatten (List.replicate n ds)) (List.flatten (List.replicate n vs))
  | 0 => rfl
  | n + 1 => by
    rw [List.replicate_succ, List.replicate_succ, List.flatten_cons, List.flatten_cons]
    exact r.append (Rps.rep r n)
theorem bl_mul (ha : PE X a (MV X.K T W ea)) (hb : PE X b (MV X.K T W eb)) : PE X (.BinOp a .Mult b pos) (ML X.K T W (Mi.lMul ea eb)) := PE.imp (pe_op op_rep ha hb) fun σ H Q h => by
  obtain ⟨α, F, env, cs, rc, ev, h⟩ := h
  refine ⟨α, F, env, cs, rc, ev, h.bnd.mono fun α1 F1 cs1 H1 x lt1 rc1 o1 v r1 => ?_⟩
  refine ⟨α1, F1, env, cs1, rc1, ev.mono lt1.toLt, o1.bnd.mono fun α2 F2 cs2 H2 y lt2 rc2 o2 w r2 => ?_⟩
  obtain ⟨xs, e, _⟩ := o2.out rc2
  rw [e] at o2
  simp only [Option.bind_eq_some_iff] at e
  obtain ⟨xs1, e1, e3⟩ := e
  split at e3
  · rename_i n
    by_cases hl : 0 ≤ n ∧ xs1.length * n.toNat ≤ Mi.SIZE ∧ n < 16777216
    · rw [if_pos hl] at e3
      cases e3
      obtain ⟨q, vs, rfl, s, r⟩ := ownOf_of rc2 (Rp.mono lt2.toLt _ _ r1) e1
      refine ⟨q, n, vs, rfl, r2, s, by omega, by omega, by rw [r.length, ← size_eq]; exact hl.2.1, fun p hp => ?_⟩
      obtain ⟨hf, ha⟩ := rc2.new_out hp
      exact o2.v (Nx.alloc hp) (rc2.alloc hp) p _ ((lt1.trans lt2).dom p hp) upd_same hf ha (r.rep _)
    · rw [if_neg hl] at e3
      cases e3
  · cases e3
def tyN : Mi.Ty → String
  | .int => "int"
  | .bool => "bool"
  | .str => "str"
  | .list => "list"
  | .tuple => "tuple"
theorem tyX_list {K : PySem.W.Frag} {H : Hp} {a : Addr} {vs : List V} (h : SqL K H a vs) : TyX K H (.ref a) (.type "list") := by
  rcases h with (h | ⟨o, h⟩) | ⟨o, its, n, h, hc, _⟩
  · exact .base (.lst h)
  · exact .base (.frz h)
  · exact .kList h hc
theorem tyX_tup {K : PySem.W.Frag} {H : Hp} {a : Addr} {vs : List V} (h : SqT K H a vs) : TyX K H (.ref a) (.type "tuple") := by
  rcases h with (h | ⟨o, h⟩) | ⟨o, its, n, h, hc, _⟩
  · exact .base (.tup h)
  · exact .fTuple h
  · exact .kTuple h hc
theorem isa_of {K : PySem.W.Frag} {α F cs H x v b} {t : Mi.Ty} (rc : RC K T α F cs H) (rx : Rp K T α F x v) (h : Mi.isaT cs x (some t) = some b) : ∃ n : String, TyX K H v (.type n) ∧ kitB n (tyN t) = some b := by
  cases x with
  | non =>
    have e : v = .non := rx
    subst e
    refine ⟨"NoneType", .base .non, ?_⟩
    cases t <;> cases h <;> decide +kernel
  | bl k =>
    have e : v = .bl k := rx
    subst e
    refine ⟨"bool", .base (.bl k), ?_⟩
    cases t <;> cases h <;> decide +kernel
  | int k =>
    have e : v = .int k := rx
    subst e
    refine ⟨"int", .base (.int k), ?_⟩
    cases t <;> cases h <;> decide +kernel
  | str k =>
    have e : v = .str k := rx
    subst e
    refine ⟨"str", .base (.str k), ?_⟩
    cases t <;> cases h <;> decide +kernel
  | tup xs =>
    obtain ⟨a, vs, rfl, s, r⟩ := rx
    refine ⟨"tuple", tyX_tup (same_sqT rc.same s), ?_⟩
    cases t <;> cases h <;> decide +kernel
  | lst xs =>
    obtain ⟨a, vs, rfl, s, r⟩ := rx
    refine ⟨"list", tyX_list (.of (rc.same _ _ s)), ?_⟩
    cases t <;> cases h <;> decide +kernel
  | fro xs =>
    obtain ⟨a, vs, rfl, s, r⟩ := rx
    refine ⟨"list", tyX_list (rc.same.seq s), ?_⟩
    cases t <;> cases h <;> decide +kernel
  | dct ks ws =>
    obtain ⟨a, kvs, rfl, s, r⟩ := rx
    refine ⟨"dict", ?_, ?_⟩
    · rcases s with s | ⟨o, s⟩
      · exact .base (.dK (rc.same _ _ s))
      · exact .fDict (rc.same _ _ s)
    · cases t <;> cases h <;> decide +kernel
  | obj c fs => cases h
  | cell k =>
    obtain ⟨a, ea, rfl⟩ := rx
    cases hc : cs[k]? with
    | none =>
      simp only [Mi.isaT, hc] at h
      cases t <;> cases h
    | some c =>
      have ok := rc.ok k a c ea hc
      cases c with
      | lst xs =>
        obtain ⟨vs, e, _⟩ := ok
        refine ⟨"list", .base (.lst e), ?_⟩
        simp only [Mi.isaT, hc] at h
        cases t <;> cases h <;> decide +kernel
      | dct ks ws =>
        obtain ⟨kvs, e, _⟩ := ok
        refine ⟨"dict", .base (.dK e), ?_⟩
        simp only [Mi.isaT, hc] at h
        cases t <;> cases h <;> decide +kernel
      | obj d fs =>
        simp only [Mi.isaT, hc] at h
        cases t <;> cases h
theorem br_isa {t : Mi.Ty} {x2 : Str} (hx : bootBuiltins x2 = some (.type (tyN t))) (hg : Gl X "isinstance") (hm : X.mg "isinstance" = none) (hg2 : Gl X x2) (hm2 : X.mg x2 = none) (ha : PE X a (MV X.K T W ea)) (hn : x2 ≠ "__name__" := by decide) (hd : (x2 == ("__debug__" : Str)) = false := by decide)
    (na : starEach [a, .Name x2 p2] X.env = (false, eval a X.env) :: starEach [.Name x2 p2] X.env := by rfl) (nb : starEach [.Name x2 p2] X.env = (false, eval (.Name x2 p2) X.env) :: starEach [] X.env := by rfl) (npl : (backTo pos (starEach [.Name x2 p2] X.env)).any (·.1) = false := by rfl) :
    PE X (.Call (.Name "isinstance" p) [a, .Name x2 p2] [] pos) (MV X.K T W (Mi.e1 (Mi.oIsa t) ea)) := by
  refine PE.imp (pe_callB call_isi hg hm boot_isinstance (pa_cons ha (pa_cons (pe_bltn (v := .ty (tyN t)) hg2 hm2 hx rfl hn hd) pa_nil nb) na) (he := na) (hpl := npl)) fun σ H Q h => ?_
  obtain ⟨α, F, env, cs, rc, ev, h⟩ := h
  refine ⟨α, F, env, cs, rc, ev, h.bnd.mono fun α1 F1 cs1 H1 x lt1 rc1 o1 v r1 => ?_⟩
  obtain ⟨z, e, q⟩ := o1.out rc1
  unfold Mi.oIsa at e
  cases e2 : Mi.isaT cs1 x (some t) with
  | none => rw [e2] at e; cases e
  | some k =>
    rw [e2] at e
    cases e
    obtain ⟨n, ty, kb⟩ := isa_of rc1 r1 e2
    exact ⟨v, .ty (tyN t), _, _, k, rfl, .ty _, ty, kit_ty kb, q _ rfl⟩
theorem bools_of {K : PySem.W.Frag} {α F} : ∀ {xs : List Mi.D} {vs : List V} {bs : List Bool}, Rps K T α F xs vs → Mi.boolsOf xs = some bs → vs = bs.map V.bl
  | [], _, _, r, e => by
    cases e
    exact r
  | x :: xs, _, bs, r, e => by
    obtain ⟨v, s, rfl, r1, r2⟩ := r
    cases x <;> simp only [Mi.boolsOf, reduceCtorEq, Option.map_eq_some_iff] at e
    obtain ⟨cs, e1, rfl⟩ := e
    have ev : v = .bl _ := r1
    rw [ev, bools_of r2 e1]
    rfl
theorem o_all {K : PySem.W.Frag} : Op1 K T (fun v H Q => rAll K [v] H Q) Mi.oAll := by
  intro α F cs H x z v rc rx e Q q
  simp only [Mi.oAll, Option.map_eq_some_iff, Option.bind_eq_some_iff] at e
  obtain ⟨bs, ⟨xs, e1, e2⟩, rfl⟩ := e
  obtain ⟨a, vs, rfl, s, r⟩ := lstOf_of rc rx e1
  rw [bools_of r e2] at s
  exact ⟨a, bs, rfl, s, q α F H _ (Nx.refl _ _ _) rc rfl⟩
theorem o_any {K : PySem.W.Frag} : Op1 K T (fun v H Q => rAny K [v] H Q) Mi.oAny := by
  intro α F cs H x z v rc rx e Q q
  simp only [Mi.oAny, Option.map_eq_some_iff, Option.bind_eq_some_iff] at e
  obtain ⟨bs, ⟨xs, e1, e2⟩, rfl⟩ := e
  obtain ⟨a, vs, rfl, s, r⟩ := lstOf_of rc rx e1
  rw [bools_of r e2] at s
  exact ⟨a, bs, rfl, s, q α F H _ (Nx.refl _ _ _) rc rfl⟩
end
mutual
def toPy : Mi.D → PyData
  | .int i => .int i
  | .str x => .str x
  | .tup xs => .tuple (toPys xs)
  | .lst xs => .list (toPys xs)
  | _ => .none
def toPys : List Mi.D → List PyData
  | [] => []
  | x :: xs => toPy x :: toPys xs
end
section
variable {K : PySem.W.Frag} {T : Tab} {α : List Addr} {F H : Hp}
mutual
theorem dp_of (sm : Same F H) : ∀ (d : Mi.D) (v : V), d.plain = true → Rp K T α F d v → Dp K H v (toPy d)
  | .non, v, _, r => by
    have e : v = .non := r
    subst e
    exact .non
  | .int i, v, _, r => by
    have e : v = .int i := r
    subst e
    exact .int i
  | .str x, v, _, r => by
    have e : v = .str x := r
    subst e
    exact .str x
  | .tup xs, v, p, r => by
    obtain ⟨a, vs, rfl, s, q⟩ := r
    exact .tup (same_sqT sm s) (dps_of sm xs vs (by simpa [Mi.D.plain] using p) q)
  | .lst xs, v, p, r => by
    obtain ⟨a, vs, rfl, s, q⟩ := r
    exact .lst (.of (sm _ _ s)) (dps_of sm xs vs (by simpa [Mi.D.plain] using p) q)
  | .bl _, _, p, _ => by simp [Mi.D.plain] at p
  | .fro _, _, p, _ => by simp [Mi.D.plain] at p
  | .dct _ _, _, p, _ => by simp [Mi.D.plain] at p
  | .obj _ _, _, p, _ => by simp [Mi.D.plain] at p
  | .cell _, _, p, _ => by simp [Mi.D.plain] at p
theorem dps_of (sm : Same F H) : ∀ (ds : List Mi.D) (vs : List V), Mi.D.plains ds = true → Rps K T α F ds vs → DpAll K H vs (toPys ds)
  | [], vs, _, r => by
    have e : vs = [] := r
    subst e
    exact .nil
  | d :: ds, _, p, r => by
    obtain ⟨v, s, rfl, r1, r2⟩ := r
    simp only [Mi.D.plains, Bool.and_eq_true] at p
    exact .cons (dp_of sm d v p.1 r1) (dps_of sm ds s p.2 r2)
end
mutual
theorem lay_of : ∀ d : Mi.D, d.plain = true → (toPy d).canLay0 = true
  | .non, _ => by simp [toPy, PyData.canLay0]
  | .int i, _ => by simp [toPy, PyData.canLay0]
  | .str x, p => by
    simp only [Mi.D.plain] at p
    simp only [toPy, PyData.canLay0, PyData.strOk]
    exact p
  | .tup xs, p => by
    simp only [toPy, PyData.canLay0]
    exact lays_of xs (by simpa [Mi.D.plain] using p)
  | .lst xs, p => by
    simp only [toPy, PyData.canLay0]
    exact lays_of xs (by simpa [Mi.D.plain] using p)
  | .bl _, p => by simp [Mi.D.plain] at p
  | .fro _, p => by simp [Mi.D.plain] at p
  | .dct _ _, p => by simp [Mi.D.plain] at p
  | .obj _ _, p => by simp [Mi.D.plain] at p
  | .cell _, p => by simp [Mi.D.plain] at p
theorem lays_of : ∀ ds : List Mi.D, Mi.D.plains ds = true → PyData.canLayAll0 (toPys ds) = true
  | [], _ => by simp [toPys, PyData.canLayAll0]
  | d :: ds, p => by
    simp only [Mi.D.plains, Bool.and_eq_true] at p
    simp only [toPys, PyData.canLayAll0, lay_of d p.1, lays_of ds p.2, Bool.and_self]
end
mutual
theorem depth_of : ∀ d : Mi.D, d.plain = true → (toPy d).depth = d.depth
  | .non, _ => by simp [toPy, PyData.depth, Mi.D.depth]
  | .int i, _ => by simp [toPy, PyData.depth, Mi.D.depth]
  | .str x, p => by simp [toPy, PyData.depth, Mi.D.depth]
  | .tup xs, p => by
    simp only [toPy, PyData.depth, Mi.D.depth, depths_of xs (by simpa [Mi.D.plain] using p)]
  | .lst xs, p => by
    simp only [toPy, PyData.depth, Mi.D.depth, depths_of xs (by simpa [Mi.D.plain] using p)]
  | .bl _, p => by simp [Mi.D.plain] at p
  | .fro _, p => by simp [Mi.D.plain] at p
  | .dct _ _, p => by simp [Mi.D.plain] at p
  | .obj _ _, p => by simp [Mi.D.plain] at p
  | .cell _, p => by simp [Mi.D.plain] at p
theorem depths_of : ∀ ds : List Mi.D, Mi.D.plains ds = true → PyData.depthAll (toPys ds) = Mi.D.depths ds
  | [], _ => by simp [toPys, PyData.depthAll, Mi.D.depths]
  | d :: ds, p => by
    simp only [Mi.D.plains, Bool.and_eq_true] at p
    simp only [toPys, PyData.depthAll, Mi.D.depths, depth_of d p.1, depths_of ds p.2]
end
theorem shaped_of {d : Mi.D} (h : d.fit = true) : SeqAt.shaped (toPy d) = true := by
  unfold Mi.D.fit at h
  rw [Bool.and_eq_true] at h
  unfold SeqAt.shaped
  rw [lay_of d h.1, depth_of d h.1, h.2]
  rfl
mutual
theorem eqv_of : ∀ d e : Mi.D, d.plain = true → e.plain = true → PyData.eqv (toPy d) (toPy e) = decide (d = e)
  | .non, e, _, q => by cases e <;> simp [Mi.D.plain] at q <;> simp [toPy, PyData.eqv]
  | .int i, e, _, q => by
    cases e <;> simp [Mi.D.plain] at q <;> simp [toPy, PyData.eqv]
    exact Bool.beq_eq_decide_eq _ _
  | .str x, e, _, q => by
    cases e <;> simp [Mi.D.plain] at q <;> simp [toPy, PyData.eqv]
    exact Bool.beq_eq_decide_eq _ _
  | .tup xs, e, p, q => by
    cases e <;> simp [Mi.D.plain] at q <;> simp [toPy, PyData.eqv]
    exact eqvs_of xs _ (by simpa [Mi.D.plain] using p) q
  | .lst xs, e, p, q => by
    cases e <;> simp [Mi.D.plain] at q <;> simp [toPy, PyData.eqv]
    exact eqvs_of xs _ (by simpa [Mi.D.plain] using p) q
  | .bl _, _, p, _ => by simp [Mi.D.plain] at p
  | .fro _, _, p, _ => by simp [Mi.D.plain] at p
  | .dct _ _, _, p, _ => by simp [Mi.D.plain] at p
  | .obj _ _, _, p, _ => by simp [Mi.D.plain] at p
  | .cell _, _, p, _ => by simp [Mi.D.plain] at p
theorem eqvs_of : ∀ ds es : List Mi.D, Mi.D.plains ds = true → Mi.D.plains es = true → PyData.eqvAll (toPys ds) (toPys es) = decide (ds = es)
  | [], [], _, _ => by simp [toPys, PyData.eqvAll]
  | [], _ :: _, _, _ => by simp [toPys, PyData.eqvAll]
  | _ :: _, [], _, _ => by simp [toPys, PyData.eqvAll]
  | d :: ds, e :: es, p, q => by
    simp only [Mi.D.plains, Bool.and_eq_true] at p q
    simp only [toPys, PyData.eqvAll, eqv_of d e p.1 q.1, eqvs_of ds es p.2 q.2]
    by_cases h1 : d = e <;> by_cases h2 : ds = es <;> simp [h1, h2]
end
theorem frozen0_of {cs : Mi.Cs} {x d : Mi.D} {v : V} (rc : RC K T α F cs H) (rx : Rp K T α F x v) (h : Mi.frozen 0 cs x = some d) : ∃ F'', Same F'' H ∧ Rp K T [] F'' d v := by
  have keepF : ∀ a, F a ≠ none → dropped F H α a = F a := fun a hn => by
    unfold dropped
    rw [if_neg]
    intro hb
    exact hn (rc.out a hb)
  refine ⟨dropped F H α, fun b o e => ?_, Rp.subst (.of_out keepF) (fun k a d'' h1 h2 => look_ok (α := []) rc (.of_out keepF) (fun k a hk _ => absurd hk (Nat.not_lt_zero _)) (fun k a _ e => ?_) _ k a d'' h1 h2) x d v h rx⟩
  · unfold dropped at e
    by_cases hb : b ∈ α
    · rw [if_pos hb] at e
      exact e
    · rw [if_neg hb] at e
      exact rc.same _ _ e
  · unfold dropped
    rw [if_pos (List.mem_of_getElem? e)]
theorem o_eq : Op2 K T (rEqD K) Mi.oEq := by
  intro α F cs H x y z v w rc rx ry e Q q
  simp only [Mi.oEq, Option.bind_eq_some_iff] at e
  obtain ⟨d, e1, d2, e2, e3⟩ := e
  by_cases hf : (d.fit && d2.fit) = true
  · rw [if_pos hf] at e3
    cases e3
    rw [Bool.and_eq_true] at hf
    obtain ⟨F1, s1, r1⟩ := frozen0_of rc rx e1
    obtain ⟨F2, s2, r2⟩ := frozen0_of rc ry e2
    have p1 := (Bool.and_eq_true_iff.mp hf.1).1
    have p2 := (Bool.and_eq_true_iff.mp hf.2).1
    refine ⟨toPy d, toPy d2, dp_of s1 d v p1 r1, dp_of s2 d2 w p2 r2, shaped_of hf.1, shaped_of hf.2, q α F H _ (Nx.refl _ _ _) rc ?_⟩
    rw [eqv_of d d2 p1 p2]
    rfl
  · rw [if_neg hf] at e3
    cases e3
theorem o_ne : Op2 K T (rNeD K) Mi.oNe := by
  intro α F cs H x y z v w rc rx ry e Q q
  simp only [Mi.oNe, Option.bind_eq_some_iff] at e
  obtain ⟨d, e1, d2, e2, e3⟩ := e
  by_cases hf : (d.fit && d2.fit) = true
  · rw [if_pos hf] at e3
    cases e3
    rw [Bool.and_eq_true] at hf
    obtain ⟨F1, s1, r1⟩ := frozen0_of rc rx e1
    obtain ⟨F2, s2, r2⟩ := frozen0_of rc ry e2
    have p1 := (Bool.and_eq_true_iff.mp hf.1).1
    have p2 := (Bool.and_eq_true_iff.mp hf.2).1
    refine ⟨toPy d, toPy d2, dp_of s1 d v p1 r1, dp_of s2 d2 w p2 r2, shaped_of hf.1, shaped_of hf.2, q α F H _ (Nx.refl _ _ _) rc ?_⟩
    rw [eqv_of d d2 p1 p2]
    rfl
  · rw [if_neg hf] at e3
    cases e3
theorem any_of {d : Mi.D} (hd : d.plain = true) : ∀ es : List Mi.D, Mi.D.plains es = true → (toPys es).any (fun z => PyData.eqv z (toPy d)) = decide (d ∈ es)
  | [], _ => by simp [toPys]
  | e :: es, p => by
    simp only [Mi.D.plains, Bool.and_eq_true] at p
    simp only [toPys, List.any_cons, eqv_of e d p.1 hd, any_of hd es p.2]
    by_cases h1 : e = d
    · simp [h1]
    · have h2 : ¬ d = e := fun z => h1 z.symm
      simp [h1, h2]
theorem o_in : Op2 K T (rInD K) Mi.oIn := by
  intro α F cs H x y z v w rc rx ry e Q q
  simp only [Mi.oIn, Option.bind_eq_some_iff] at e
  obtain ⟨d, e1, d2, e2, e3⟩ := e
  split at e3
  · rename_i es
    by_cases hf : (d.fit && (Mi.D.lst es).fit) = true
    · rw [if_pos hf] at e3
      cases e3
      rw [Bool.and_eq_true] at hf
      obtain ⟨F1, s1, r1⟩ := frozen0_of rc rx e1
      obtain ⟨F2, s2, r2⟩ := frozen0_of rc ry e2
      have p1 := (Bool.and_eq_true_iff.mp hf.1).1
      have p2 := (Bool.and_eq_true_iff.mp hf.2).1
      have s3 := shaped_of hf.2
      have d3 := dp_of s2 _ w p2 r2
      simp only [toPy] at s3 d3
      refine ⟨toPy d, toPys es, dp_of s1 d v p1 r1, d3, shaped_of hf.1, s3, q α F H _ (Nx.refl _ _ _) rc ?_⟩
      rw [any_of p1 es (by simpa [Mi.D.plain] using p2)]
      rfl
    · rw [if_neg hf] at e3
      cases e3
  · cases e3
theorem o_notIn : Op2 K T (rNotInD K) Mi.oNotIn := by
  intro α F cs H x y z v w rc rx ry e Q q
  simp only [Mi.oNotIn, Option.bind_eq_some_iff] at e
  obtain ⟨d, e1, d2, e2, e3⟩ := e
  split at e3
  · rename_i es
    by_cases hf : (d.fit && (Mi.D.lst es).fit) = true
    · rw [if_pos hf] at e3
      cases e3
      rw [Bool.and_eq_true] at hf
      obtain ⟨F1, s1, r1⟩ := frozen0_of rc rx e1
      obtain ⟨F2, s2, r2⟩ := frozen0_of rc ry e2
      have p1 := (Bool.and_eq_true_iff.mp hf.1).1
      have p2 := (Bool.and_eq_true_iff.mp hf.2).1
      have s3 := shaped_of hf.2
      have d3 := dp_of s2 _ w p2 r2
      simp only [toPy] at s3 d3
      refine ⟨toPy d, toPys es, dp_of s1 d v p1 r1, d3, shaped_of hf.1, s3, q α F H _ (Nx.refl _ _ _) rc ?_⟩
      rw [any_of p1 es (by simpa [Mi.D.plain] using p2)]
      rfl
    · rw [if_neg hf] at e3
      cases e3
  · cases e3
end
end Br
end
section
set_option Elab.async false
set_option linter.all false
set_option maxRecDepth 100000
set_option maxHeartbeats 4000000
namespace Br
open PySem PySem.Spec PyProof.Rows L2
mutual
theorem like_of : ∀ d e : Mi.D, Mi.likeD d e = true → PySem.W.alike (toPy d) (toPy e) = true
  | .int _, e, h => by cases e <;> simp [Mi.likeD] at h <;> simp [toPy, PySem.W.alike]
  | .str _, e, h => by cases e <;> simp [Mi.likeD] at h <;> simp [toPy, PySem.W.alike]
  | .tup xs, e, h => by
    cases e <;> simp [Mi.likeD] at h <;> simp [toPy, PySem.W.alike]
    exact likes_of xs _ h
  | .lst xs, e, h => by
    cases e <;> simp [Mi.likeD] at h <;> simp [toPy, PySem.W.alike]
    exact likes_of xs _ h
  | .non, _, h => by simp [Mi.likeD] at h
  | .bl _, _, h => by simp [Mi.likeD] at h
  | .fro _, _, h => by simp [Mi.likeD] at h
  | .dct _ _, _, h => by simp [Mi.likeD] at h
  | .obj _ _, _, h => by simp [Mi.likeD] at h
  | .cell _, _, h => by simp [Mi.likeD] at h
theorem likes_of : ∀ ds es : List Mi.D, Mi.likeDs ds es = true → PySem.W.alikeAll (toPys ds) (toPys es) = true
  | [], _, _ => by simp [toPys, PySem.W.alikeAll]
  | _ :: _, [], _ => by simp [toPys, PySem.W.alikeAll]
  | d :: ds, e :: es, h => by
    simp only [Mi.likeDs, Bool.and_eq_true] at h
    simp only [toPys, PySem.W.alikeAll, like_of d e h.1, likes_of ds es h.2, Bool.and_self]
end
mutual
theorem lt_of : ∀ d e : Mi.D, d.plain = true → e.plain = true → Mi.likeD d e = true → PySem.W.dataLt (toPy d) (toPy e) = Mi.ltD d e
  | .int _, e, _, _, h => by
    cases e <;> simp [Mi.likeD] at h
    simp only [toPy, Mi.ltD]
    exact PySem.W.dataLt_int _ _
  | .str _, e, _, _, h => by
    cases e <;> simp [Mi.likeD] at h
    simp only [toPy, Mi.ltD]
    exact PySem.W.dataLt_str _ _
  | .tup xs, e, p, q, h => by
    cases e <;> simp [Mi.likeD] at h
    simp only [toPy, Mi.ltD]
    rw [PySem.W.dataLt_tuple]
    exact lts_of xs _ (by simpa [Mi.D.plain] using p) (by simpa [Mi.D.plain] using q) h
  | .lst xs, e, p, q, h => by
    cases e <;> simp [Mi.likeD] at h
    simp only [toPy, Mi.ltD]
    rw [PySem.W.dataLt_list]
    exact lts_of xs _ (by simpa [Mi.D.plain] using p) (by simpa [Mi.D.plain] using q) h
  | .non, _, _, _, h => by simp [Mi.likeD] at h
  | .bl _, _, _, _, h => by simp [Mi.likeD] at h
  | .fro _, _, _, _, h => by simp [Mi.likeD] at h
  | .dct _ _, _, _, _, h => by simp [Mi.likeD] at h
  | .obj _ _, _, _, _, h => by simp [Mi.likeD] at h
  | .cell _, _, _, _, h => by simp [Mi.likeD] at h
theorem lts_of : ∀ ds es : List Mi.D, Mi.D.plains ds = true → Mi.D.plains es = true → Mi.likeDs ds es = true → PyProof.Rows.lexLt PyProof.Rows.itemOrd (PySem.W.keyToksAll (toPys ds)) (PySem.W.keyToksAll (toPys es)) = Mi.ltDs ds es
  | [], [], _, _, _ => by
    simp only [toPys, Mi.ltDs]
    exact PyProof.Rows.lex_irrefl _
  | [], e :: es, _, _, _ => by
    simp only [toPys, Mi.ltDs]
    rfl
  | d :: ds, [], _, _, _ => by
    simp only [toPys, Mi.ltDs]
    rfl
  | d :: ds, e :: es, p, q, h => by
    simp only [Mi.likeDs, Bool.and_eq_true] at h
    simp only [Mi.D.plains, Bool.and_eq_true] at p q
    simp only [toPys, Mi.ltDs]
    rw [PySem.W.dataLt_cons (like_of d e h.1), eqv_of d e p.1 q.1, lt_of d e p.1 q.1 h.1, lts_of ds es p.2 q.2 h.2]
    by_cases he : d = e <;> simp [he]
end
section
variable {K : PySem.W.Frag}
theorem toPys_map : ∀ ds : List Mi.D, toPys ds = ds.map toPy
  | [] => rfl
  | d :: ds => by simp only [toPys, List.map_cons, toPys_map ds]
def rSortV (K : PySem.W.Frag) : List V → Hp → VK → Prop := fun vs H Q => ∃ (a : Addr) (bs : List (V × Mi.D)), vs = [.ref a] ∧ SqL K H a (bs.map (·.1)) ∧ (∀ b ∈ bs, Dp K H b.1 (toPy b.2)) ∧ Mi.sortable (bs.map (·.2)) = true ∧
  ∀ p, H p = none → Q (.ref p) (upd H p (.lst ((bs.mergeSort fun x y => !Mi.ltD y.2 x.2).map (·.1))))
theorem each_vals : ∀ {bs : List (V × Mi.D)} {its : List Value}, Vals (bs.map (·.1)) its → PySem.W.EachIs (fun v b => RelV b.1 v) its bs
  | [], _, r => by
    cases r
    exact .nil
  | b :: bs, _, r => by
    rw [List.map_cons] at r
    cases r with
    | cons r1 r2 => exact .cons r1 (each_vals r2)
theorem vals_each : ∀ {bs : List (V × Mi.D)} {its : List Value}, PySem.W.EachIs (fun v b => RelV b.1 v) its bs → Vals (bs.map (·.1)) its
  | [], _, r => by
    cases r
    exact .nil
  | b :: bs, _, r => by
    cases r with
    | cons r1 r2 => exact .cons r1 (vals_each r2)
theorem each_imp {α β : Type} {R R' : α → β → Prop} : ∀ {as : List α} {bs : List β}, PySem.W.EachIs R as bs → (∀ a b, b ∈ bs → R a b → R' a b) → PySem.W.EachIs R' as bs
  | _, _, .nil, _ => .nil
  | _, _, .cons h t, f => .cons (f _ _ List.mem_cons_self h) (each_imp t fun a b hb => f a b (List.mem_cons_of_mem _ hb))
theorem sortable_of {ds : List Mi.D} (h : Mi.sortable ds = true) : PySem.W.AllAlike (ds.map toPy) ∧ PySem.W.Sortable (ds.map toPy) ∧ (∀ d ∈ ds, d.fit = true) ∧ (∀ d ∈ ds, ∀ e ∈ ds, Mi.likeD d e = true) ∧ ds.length ≤ sizeLine := by
  unfold Mi.sortable at h
  simp only [Bool.and_eq_true, List.all_eq_true, Bool.or_eq_true, decide_eq_true_eq] at h
  obtain ⟨⟨h1, h2⟩, h3⟩ := h
  refine ⟨fun d hd d' hd' => ?_, ?_, fun d hd => (h1 d hd).1, fun d hd e he => (h1 d hd).2 e he, by rw [← size_eq]; exact h3⟩
  · obtain ⟨e, he, rfl⟩ := List.mem_map.mp hd
    obtain ⟨e', he', rfl⟩ := List.mem_map.mp hd'
    exact like_of e e' ((h1 e he).2 e' he')
  · rcases h2 with h2 | h2
    · refine .inl fun d hd => ?_
      obtain ⟨e, he, rfl⟩ := List.mem_map.mp hd
      have q := h2 e he
      unfold Mi.isTup1 at q
      split at q
      · exact ⟨_, _, rfl⟩
      · cases q
    · refine .inr fun d hd => ?_
      obtain ⟨e, he, rfl⟩ := List.mem_map.mp hd
      have q := h2 e he
      have l := (h1 e he).2 e he
      cases e <;> simp only [Mi.likeD, Bool.false_eq_true] at l
      · exact ⟨(fun z => nomatch z), (fun _ z => nomatch z)⟩
      · exact ⟨(fun z => nomatch z), (fun _ z => nomatch z)⟩
      · cases q
      · exact ⟨(fun z => nomatch z), (fun _ z => nomatch z)⟩
theorem cr_sortV {X : Cx} (hu : X.A.units + 66 < cLine) : CallR X (.builtin "sorted") (rSortV X.K) := by
  intro pins s σ H vs us Q I r h
  obtain ⟨a, bs, rfl, hs, hd, so, q⟩ := h
  obtain ⟨its, rv, hl, hz⟩ := I.list hs
  rw [Vals.ref1 r]
  obtain ⟨al, sb, fit, lk, hsz⟩ := sortable_of so
  rw [List.map_map] at al sb
  rw [List.length_map] at hsz
  have e := each_vals rv
  have er : PySem.W.EachIs (fun v (b : V × Mi.D) => ∃ as, Reads s.heap v (toPy b.2) as) its bs := each_imp e fun v b hb rel => Dp.reads I _ _ _ (hd b hb) rel
  refine PySem.W.sorted_data (enc := fun b : V × Mi.D => toPy b.2) hl.isList e er al sb hsz (fun b hb => ?_) fun out ho eo => ?_
  · have hf := fit b.2 (List.mem_map.mpr ⟨b, hb, rfl⟩)
    unfold Mi.D.fit at hf
    rw [Bool.and_eq_true] at hf
    rw [depth_of b.2 hf.1]
    have := of_decide_eq_true hf.2
    omega
  · have em : bs.mergeSort (PySem.W.dataLe false fun b : V × Mi.D => toPy b.2) = bs.mergeSort fun x y => !Mi.ltD y.2 x.2 := by
      have := List.map_mergeSort (r := PySem.W.dataLe false fun b : V × Mi.D => toPy b.2) (s := fun x y => !Mi.ltD y.2 x.2) (f := id) (l := bs) fun x hx y hy => by
        show (!PySem.W.dataLt (toPy y.2) (toPy x.2)) = !Mi.ltD y.2 x.2
        have hx2 : x.2 ∈ bs.map (·.2) := List.mem_map.mpr ⟨x, hx, rfl⟩
        have hy2 : y.2 ∈ bs.map (·.2) := List.mem_map.mpr ⟨y, hy, rfl⟩
        rw [lt_of y.2 x.2 (Bool.and_eq_true_iff.mp (fit _ hy2)).1 (Bool.and_eq_true_iff.mp (fit _ hx2)).1 (lk _ hy2 _ hx2)]
      simpa using this
    rw [em] at eo
    have rv2 := vals_each eo
    obtain ⟨ep, he'⟩ := PyProof.Rows.sortedAll_at s.heap its (List.toArray out)
    have hlen : ((bs.mergeSort fun x y => !Mi.ltD y.2 x.2).map (·.1)).length ≤ sizeLine := by
      rw [List.length_map, List.length_mergeSort]
      exact hsz
    exact ⟨.ref _, upd H (s.heap.objs.size + 1) (.lst ((bs.mergeSort fun x y => !Mi.ltD y.2 x.2).map (·.1))), I.laid (t' := s.toks) (fun _ _ => PyProof.Rows.sortedAll_old) (Nat.le_succ _) ⟨hlen, out, ep, rv2, he'⟩, rfl, q _ (I.hok.fresh (Nat.le_succ _))⟩
theorem zip_fst {α F} {T : Tab} : ∀ {ds : List Mi.D} {vs : List V}, Rps K T α F ds vs → (vs.zip ds).map (·.1) = vs ∧ (vs.zip ds).map (·.2) = ds
  | [], vs, r => by
    have e : vs = [] := r
    subst e
    exact ⟨rfl, rfl⟩
  | d :: ds, _, r => by
    obtain ⟨v, s, rfl, _, q⟩ := r
    obtain ⟨h1, h2⟩ := zip_fst q
    exact ⟨by rw [List.zip_cons_cons, List.map_cons, h1], by rw [List.zip_cons_cons, List.map_cons, h2]⟩
theorem zip_rp {α F} {T : Tab} : ∀ {ds : List Mi.D} {vs : List V}, Rps K T α F ds vs → ∀ b ∈ vs.zip ds, Rp K T α F b.2 b.1
  | [], vs, r, b, h => by
    have e : vs = [] := r
    subst e
    simp at h
  | d :: ds, _, r, b, h => by
    obtain ⟨v, s, rfl, p, q⟩ := r
    rw [List.zip_cons_cons] at h
    rcases List.mem_cons.mp h with rfl | h
    · exact p
    · exact zip_rp q b h
theorem rps_of_zip {α F} {T : Tab} : ∀ {bs : List (V × Mi.D)}, (∀ b ∈ bs, Rp K T α F b.2 b.1) → Rps K T α F (bs.map (·.2)) (bs.map (·.1))
  | [], _ => rfl
  | b :: bs, h => ⟨b.1, bs.map (·.1), rfl, h b List.mem_cons_self, rps_of_zip fun c hc => h c (List.mem_cons_of_mem _ hc)⟩
end
section
variable {X : Cx} {T : Tab} {W : WX} {a b c o tg : Expr} {ea eb ec : Mi.E} {l : Mi.EL} {es rest : List Expr} {pos apos cpos p p2 : Pos}
theorem bl_sorted (hu : X.A.units + 66 < cLine) (hg : Gl X "sorted") (hm : X.mg "sorted" = none) (ha : PE X a (MV X.K T W ea)) (na : starEach [a] X.env = (false, eval a X.env) :: starEach [] X.env := by rfl) : PE X (.Call (.Name "sorted" p) [a] [] pos) (ML X.K T W (Mi.lSorted ea)) := by
  refine PE.imp (pe_callB (cr_sortV hu) hg hm boot_sorted (pa_cons ha pa_nil na) (he := na)) fun σ H Q h => ?_
  obtain ⟨α, F, env, cs, rc, ev, h⟩ := h
  refine ⟨α, F, env, cs, rc, ev, h.bnd.mono fun α1 F1 cs1 H1 x lt1 rc1 o1 v r1 => ?_⟩
  obtain ⟨xs, e, _⟩ := o1.out rc1
  rw [e] at o1
  simp only [Option.bind_eq_some_iff] at e
  obtain ⟨ys, e1, e2⟩ := e
  unfold Mi.sortD at e2
  by_cases so : Mi.sortable ys = true
  · rw [if_pos so] at e2
    cases e2
    obtain ⟨q, vs, rfl, s, r⟩ := lstOf_of rc1 r1 e1
    obtain ⟨z1, z2⟩ := zip_fst r
    have zr := zip_rp r
    refine ⟨q, vs.zip ys, rfl, by rw [z1]; exact s, fun b hb => ?_, by rw [z2]; exact so, fun p hp => ?_⟩
    · obtain ⟨_, _, fit, _, _⟩ := sortable_of so
      have hm : b.2 ∈ ys := by
        rw [← z2]
        exact List.mem_map.mpr ⟨b, hb, rfl⟩
      have hf := fit _ hm
      exact dp_of rc1.same _ _ (Bool.and_eq_true_iff.mp hf).1 (zr b hb)
    · obtain ⟨hf, ha⟩ := rc1.new_out hp
      refine o1.v (Nx.alloc hp) (rc1.alloc hp) p _ (lt1.dom p hp) upd_same hf ha ?_
      have h1 : Rps X.K T α1 F1 (((vs.zip ys).mergeSort fun x y => !Mi.ltD y.2 x.2).map (·.2)) (((vs.zip ys).mergeSort fun x y => !Mi.ltD y.2 x.2).map (·.1)) :=
        rps_of_zip fun b hb => zr b (List.mem_mergeSort.mp hb)
      rw [List.map_mergeSort (r := fun x y : V × Mi.D => !Mi.ltD y.2 x.2) (s := fun x y => !Mi.ltD y x) (f := (·.2)) fun _ _ _ _ => rfl, z2] at h1
      exact h1
  · rw [if_neg so] at e2
    cases e2
theorem key_of {K : PySem.W.Frag} {α F} {y : Mi.D} {w : V} (hk : Mi.isKey y = true) (r : Rp K T α F y w) : ∃ k : Key, w = kV k ∧ keyD k = y := by
  cases y <;> simp only [Mi.isKey, Bool.false_eq_true] at hk
  · exact ⟨.inl _, r, rfl⟩
  · exact ⟨.inr _, r, rfl⟩
theorem keyD_inj {k l : Key} (h : keyD k = keyD l) : k = l := by
  cases k <;> cases l <;> simp only [keyD, Mi.D.int.injEq, Mi.D.str.injEq, reduceCtorEq] at h <;> rw [h]
theorem find_of {K : PySem.W.Frag} {α F} : ∀ {kvs : List (Key × V)} {ws : List Mi.D} (k : Key), Rps K T α F ws (kvs.map (·.2)) → match Mi.find (keyD k) (kvs.map fun p => keyD p.1) ws with
    | some d => ∃ v, valV kvs k = some v ∧ Rp K T α F d v
    | none => valV kvs k = none
  | [], ws, k, r => by
    have e : Mi.find (keyD k) (([] : List (Key × V)).map fun p => keyD p.1) ws = none := by
      cases ws <;> rfl
    rw [e]
    exact valV_nil
  | p :: kvs, [], k, r => by
    have e : List.map (·.2) (p :: kvs) = [] := r
    cases e
  | p :: kvs, w :: ws, k, r => by
    obtain ⟨v, s, e, r1, r2⟩ := r
    rw [List.map_cons] at e
    cases e
    rw [List.map_cons]
    unfold Mi.find
    by_cases h : p.1 = k
    · rw [if_pos (by rw [h])]
      exact ⟨p.2, valV_pos h, r1⟩
    · rw [if_neg (fun z => h (keyD_inj z)), valV_neg h]
      exact find_of k r2
theorem dctOf_of {K : PySem.W.Frag} {α F cs H} {x : Mi.D} {v : V} {ks ws : List Mi.D} (rc : RC K T α F cs H) (rx : Rp K T α F x v) (h : Mi.dctOf cs x = some (ks, ws)) : ∃ (a : Addr) (kvs : List (Key × V)), v = .ref a ∧ Rd H a (.dK kvs) ∧ kvs.map (fun p => keyD p.1) = ks ∧ Rps K T α F ws (kvs.map (·.2)) := by
  cases x <;> simp only [Mi.dctOf, reduceCtorEq] at h
  · obtain ⟨a, kvs, e, s, k, q⟩ := rx
    cases h
    refine ⟨a, kvs, e, ?_, k, q⟩
    rcases s with s | ⟨o, s⟩
    · exact .inl (rc.same _ _ s)
    · exact .inr ⟨o, rc.same _ _ s⟩
  · rename_i k'
    obtain ⟨a, ea, rfl⟩ := rx
    cases hc : cs[k']? with
    | none => rw [hc] at h; cases h
    | some c =>
      rw [hc] at h
      cases c <;> simp only [reduceCtorEq, Option.some.injEq, Prod.mk.injEq] at h
      obtain ⟨rfl, rfl⟩ := h
      obtain ⟨kvs, e, k, q⟩ := rc.ok _ a _ ea hc
      exact ⟨a, kvs, rfl, .inl e, k, q⟩
theorem cellD_of {K : PySem.W.Frag} {α F cs H} {x : Mi.D} {v : V} {n : Nat} {ks ws : List Mi.D} (rc : RC K T α F cs H) (rx : Rp K T α F x v) (h : Mi.cellD cs x = some (n, ks, ws)) : ∃ (a : Addr) (kvs : List (Key × V)), v = .ref a ∧ α[n]? = some a ∧ H a = some (.dK kvs) ∧ kvs.map (fun p => keyD p.1) = ks ∧ Rps K T α F ws (kvs.map (·.2)) := by
  cases x <;> simp only [Mi.cellD, reduceCtorEq] at h
  rename_i k'
  obtain ⟨a, ea, rfl⟩ := rx
  cases hc : cs[k']? with
  | none => rw [hc] at h; cases h
  | some c =>
    rw [hc] at h
    cases c <;> simp only [reduceCtorEq, Option.some.injEq, Prod.mk.injEq] at h
    obtain ⟨rfl, rfl, rfl⟩ := h
    obtain ⟨kvs, e, k, q⟩ := rc.ok _ a _ ea hc
    exact ⟨a, kvs, rfl, ea, e, k, q⟩
theorem br_dget {i : Expr} (hu : X.A.units + 1 < cLine) (ho : PE X o (MV X.K T W ea)) (hi : PE X i (MV X.K T W eb)) (hs : NoSl i) : PE X (.Subscript o i pos) (MV X.K T W (Mi.e2 Mi.oDGet ea eb)) := PE.imp (pe_dget hu ho hi hs) fun σ H Q h => by
  obtain ⟨α, F, env, cs, rc, ev, h⟩ := h
  refine ⟨α, F, env, cs, rc, ev, h.bnd.mono fun α1 F1 cs1 H1 x lt1 rc1 o1 v r1 => ?_⟩
  refine ⟨α1, F1, env, cs1, rc1, ev.mono lt1.toLt, o1.bnd.mono fun α2 F2 cs2 H2 y lt2 rc2 o2 w r2 => ?_⟩
  obtain ⟨z, e, q⟩ := o2.out rc2
  unfold Mi.oDGet at e
  by_cases hk : Mi.isKey y = true
  · rw [if_pos hk] at e
    simp only [Option.bind_eq_some_iff] at e
    obtain ⟨⟨ks, ws⟩, e1, e2⟩ := e
    obtain ⟨a, kvs, rfl, hd, hks, r⟩ := dctOf_of rc2 (Rp.mono lt2.toLt _ _ r1) e1
    obtain ⟨k, rfl, rfl⟩ := key_of hk r2
    have f := find_of (T := T) k r
    subst hks
    rw [e2] at f
    obtain ⟨u, hu, ru⟩ := f
    exact ⟨a, u, rfl, .inl ⟨kvs, k, hd, rfl, hu.symm⟩, q u ru⟩
  · rw [if_neg hk] at e
    cases e
theorem pcv_in {i : Expr} (hu : X.A.units + 1 < cLine) (hi : PE X i (MV X.K T W eb)) (ho : PE X o (MV X.K T W ea)) : ∀ σ H Q, MV X.K T W (Mi.e2 Mi.oDIn eb ea) σ H Q → tDIn (MV X.K T W eb) (MV X.K T W ea) σ H Q := fun σ H Q h => by
  obtain ⟨α, F, env, cs, rc, ev, h⟩ := h
  refine ⟨α, F, env, cs, rc, ev, h.bnd.mono fun α1 F1 cs1 H1 y lt1 rc1 o1 w r1 => ?_⟩
  refine ⟨α1, F1, env, cs1, rc1, ev.mono lt1.toLt, o1.bnd.mono fun α2 F2 cs2 H2 x lt2 rc2 o2 v r2 => ?_⟩
  obtain ⟨z, e, q⟩ := o2.out rc2
  unfold Mi.oDIn at e
  by_cases hk : Mi.isKey y = true
  · rw [if_pos hk] at e
    simp only [Option.map_eq_some_iff] at e
    obtain ⟨⟨ks, ws⟩, e1, e2⟩ := e
    obtain ⟨a, kvs, rfl, hd, hks, r⟩ := dctOf_of rc2 r2 e1
    obtain ⟨k, rfl, rfl⟩ := key_of hk r1
    have f := find_of (T := T) k r
    subst hks e2
    refine ⟨a, valV kvs k, rfl, .inl ⟨kvs, k, hd, rfl, rfl⟩, q _ ?_⟩
    dsimp only at f ⊢
    split at f
    · rename_i d ed
      obtain ⟨u, hu, _⟩ := f
      rw [ed, hu]
      rfl
    · rename_i ed
      rw [ed, f]
      rfl
  · rw [if_neg hk] at e
    cases e
theorem br_din {i : Expr} (hu : X.A.units + 1 < cLine) (hi : PE X i (MV X.K T W eb)) (ho : PE X o (MV X.K T W ea)) (h1 : behindInMarks .In o = false := by rfl) : PE X (.Compare i [.In] [o] pos) (MV X.K T W (Mi.e2 Mi.oDIn eb ea)) := PE.imp (pe_cmp (pc_din hu hi ho) h1) (pcv_in hu hi ho)
theorem bt_din {i : Expr} (hu : X.A.units + 1 < cLine) (hi : PE X i (MV X.K T W eb)) (ho : PE X o (MV X.K T W ea)) (h1 : behindInMarks .In o = false := by rfl) : PT X (.Compare i [.In] [o] pos) (MT X.K T W (Mi.e2 Mi.oDIn eb ea)) := PT.imp (pt_cmp (pc_din hu hi ho) h1) fun σ H Q h => by
  obtain ⟨α, F, env, cs, rc, ev, h⟩ := h
  refine pcv_in hu hi ho σ H _ ⟨α, F, env, cs, rc, ev, h.mono fun α1 F1 cs1 H1 d _ _ q v r => ?_⟩
  obtain ⟨k, rfl, q⟩ := q
  exact ⟨k, r, q⟩
theorem pcv_notin {i : Expr} (hu : X.A.units + 1 < cLine) (hi : PE X i (MV X.K T W eb)) (ho : PE X o (MV X.K T W ea)) : ∀ σ H Q, MV X.K T W (Mi.e2 Mi.oDNotIn eb ea) σ H Q → tDNotIn (MV X.K T W eb) (MV X.K T W ea) σ H Q := fun σ H Q h => by
  obtain ⟨α, F, env, cs, rc, ev, h⟩ := h
  refine ⟨α, F, env, cs, rc, ev, h.bnd.mono fun α1 F1 cs1 H1 y lt1 rc1 o1 w r1 => ?_⟩
  refine ⟨α1, F1, env, cs1, rc1, ev.mono lt1.toLt, o1.bnd.mono fun α2 F2 cs2 H2 x lt2 rc2 o2 v r2 => ?_⟩
  obtain ⟨z, e, q⟩ := o2.out rc2
  unfold Mi.oDNotIn at e
  by_cases hk : Mi.isKey y = true
  · rw [if_pos hk] at e
    simp only [Option.map_eq_some_iff] at e
    obtain ⟨⟨ks, ws⟩, e1, e2⟩ := e
    obtain ⟨a, kvs, rfl, hd, hks, r⟩ := dctOf_of rc2 r2 e1
    obtain ⟨k, rfl, rfl⟩ := key_of hk r1
    have f := find_of (T := T) k r
    subst hks e2
    refine ⟨a, valV kvs k, rfl, .inl ⟨kvs, k, hd, rfl, rfl⟩, q _ ?_⟩
    dsimp only at f ⊢
    split at f
    · rename_i d ed
      obtain ⟨u, hu, _⟩ := f
      rw [ed, hu]
      rfl
    · rename_i ed
      rw [ed, f]
      rfl
  · rw [if_neg hk] at e
    cases e
theorem br_dnotin {i : Expr} (hu : X.A.units + 1 < cLine) (hi : PE X i (MV X.K T W eb)) (ho : PE X o (MV X.K T W ea)) (h1 : behindInMarks .NotIn o = false := by rfl) : PE X (.Compare i [.NotIn] [o] pos) (MV X.K T W (Mi.e2 Mi.oDNotIn eb ea)) := PE.imp (pe_cmp (pc_dnotin hu hi ho) h1) (pcv_notin hu hi ho)
theorem bt_dnotin {i : Expr} (hu : X.A.units + 1 < cLine) (hi : PE X i (MV X.K T W eb)) (ho : PE X o (MV X.K T W ea)) (h1 : behindInMarks .NotIn o = false := by rfl) : PT X (.Compare i [.NotIn] [o] pos) (MT X.K T W (Mi.e2 Mi.oDNotIn eb ea)) := PT.imp (pt_cmp (pc_dnotin hu hi ho) h1) fun σ H Q h => by
  obtain ⟨α, F, env, cs, rc, ev, h⟩ := h
  refine pcv_notin hu hi ho σ H _ ⟨α, F, env, cs, rc, ev, h.mono fun α1 F1 cs1 H1 d _ _ q v r => ?_⟩
  obtain ⟨k, rfl, q⟩ := q
  exact ⟨k, r, q⟩
theorem put_mem {k : Key} : ∀ {kvs : List (Key × V)}, (keyD k ∈ kvs.map fun p => keyD p.1) ↔ (kvs.any fun kv => decide (kv.1 = k)) = true
  | [] => by simp
  | p :: kvs => by
    rw [List.map_cons, List.mem_cons, List.any_cons, Bool.or_eq_true, put_mem]
    constructor
    · rintro (h | h)
      · exact .inl (decide_eq_true (keyD_inj h).symm)
      · exact .inr h
    · rintro (h | h)
      · exact .inl (by rw [of_decide_eq_true h])
      · exact .inr h
theorem zipW_of {K : PySem.W.Frag} {α F} {k : Key} {d : Mi.D} {u : V} (ru : Rp K T α F d u) : ∀ {kvs : List (Key × V)} {ws : List Mi.D}, Rps K T α F ws (kvs.map (·.2)) →
    Rps K T α F (List.zipWith (fun k' v' => if k' = keyD k then d else v') (kvs.map fun p => keyD p.1) ws) ((kvs.map fun kv => if kv.1 = k then (kv.1, u) else kv).map (·.2))
  | [], ws, r => rfl
  | p :: kvs, [], r => by
    have e : List.map (·.2) (p :: kvs) = [] := r
    cases e
  | p :: kvs, w :: ws, r => by
    obtain ⟨v, s, e, r1, r2⟩ := r
    rw [List.map_cons] at e
    cases e
    rw [List.map_cons, List.map_cons, List.map_cons, List.zipWith_cons_cons]
    by_cases h : p.1 = k
    · rw [if_pos (by rw [h]), if_pos h]
      exact ⟨u, _, rfl, ru, zipW_of ru r2⟩
    · rw [if_neg (fun z => h (keyD_inj z)), if_neg h]
      exact ⟨p.2, _, rfl, r1, zipW_of ru r2⟩
theorem put_of {K : PySem.W.Frag} {α F} {kvs : List (Key × V)} {ws : List Mi.D} {k : Key} {d : Mi.D} {u : V} (r : Rps K T α F ws (kvs.map (·.2))) (ru : Rp K T α F d u) :
    (putK kvs k u).map (fun p => keyD p.1) = (Mi.put (keyD k) d (kvs.map fun p => keyD p.1) ws).1 ∧ Rps K T α F (Mi.put (keyD k) d (kvs.map fun p => keyD p.1) ws).2 ((putK kvs k u).map (·.2)) := by
  unfold putK Mi.put
  by_cases h : (kvs.any fun kv => decide (kv.1 = k)) = true
  · rw [if_pos h, if_pos (put_mem.mpr h)]
    refine ⟨?_, zipW_of ru r⟩
    rw [List.map_map]
    refine List.map_congr_left fun p _ => ?_
    show keyD (if p.1 = k then (p.1, u) else p).1 = keyD p.1
    split <;> rfl
  · rw [if_neg h, if_neg (fun z => h (put_mem.mp z))]
    refine ⟨by rw [List.map_append]; rfl, ?_⟩
    rw [List.map_append]
    exact r.append (Rps.one ru)
theorem ms_dput {K : PySem.W.Frag} (D : Ends) (σ : L2.St) (H : Hp) (h : MS K T W (Mi.sPut Mi.putD ea eb ec) D σ H) : sDPut (MV K T W ea) (MV K T W eb) (MV K T W ec) D σ H := by
  obtain ⟨α, F, env, cs, rc, ev, h⟩ := h
  refine ⟨α, F, env, cs, rc, ev, (OutS.thn ev h).mono fun α1 F1 cs1 H1 d lt1 rc1 o1 u r1 => ?_⟩
  have ev1 := ev.mono lt1.toLt
  refine ⟨α1, F1, env, cs1, rc1, ev1, (OutS.thn ev1 o1).mono fun α2 F2 cs2 H2 x lt2 rc2 o2 v r2 => ?_⟩
  have ev2 := ev1.mono lt2.toLt
  refine ⟨α2, F2, env, cs2, rc2, ev2, (OutS.thn ev2 o2).mono fun α3 F3 cs3 H3 y lt3 rc3 o3 w r3 => ?_⟩
  cases e : Mi.putD cs3 x y d with
  | none => rw [e] at o3; exact o3.elim
  | some cs4 =>
    rw [e] at o3
    unfold Mi.putD at e
    split at e
    · rename_i n ks ws hc
      by_cases hk : Mi.isKey y = true ∧ ks.length < Mi.SIZE
      · rw [if_pos hk] at e
        cases e
        obtain ⟨a, kvs, rfl, ea, hH, hks, r⟩ := cellD_of rc3 (Rp.mono lt3.toLt _ _ r2) hc
        obtain ⟨k, rfl, rfl⟩ := key_of hk.1 r3
        have ru := Rp.mono (lt2.trans lt3).toLt _ _ r1
        subst hks
        obtain ⟨p1, p2⟩ := put_of (k := k) r ru
        obtain ⟨rc4, nx4⟩ := rc3.write (c := .dct (Mi.put (keyD k) d (kvs.map fun p => keyD p.1) ws).1 (Mi.put (keyD k) d (kvs.map fun p => keyD p.1) ws).2) (o := .dK (putK kvs k u)) ea ⟨_, upd_same, p1, p2⟩
        refine ⟨a, _, rfl, DPut.k hH (by have := hk.2; rw [List.length_map, size_eq] at this; exact this), ?_⟩
        exact o3 _ _ _ σ nx4 rc4 (ev2.mono (lt3.trans nx4).toLt)
      · rw [if_neg hk] at e
        cases e
    · cases e
theorem bs_putD {i e : Expr} {pos' : Pos} (hu : X.A.units + 1 < cLine) (ho : PE X o (MV X.K T W ea)) (hi : PE X i (MV X.K T W eb)) (hv : PE X e (MV X.K T W ec)) (hs : swapsWith e (some (.Subscript o i pos')) pos.line X.env = pure false := by rfl) :
    PS X (.Assign [.Subscript o i pos'] e pos) (MS X.K T W (Mi.sPut Mi.putD ea eb ec)) := PS.imp (ps_dput hu ho hi hv hs) ms_dput
inductive BP (X : Cx) (T : Tab) (W : WX) : List (Option Expr) → List Expr → List (Mi.E × Mi.E) → Prop
  | nil : BP X T W [] [] []
  | cons {k v : Expr} {ks : List (Option Expr)} {vs : List Expr} {ek ev : Mi.E} {ps : List (Mi.E × Mi.E)} : PE X k (MV X.K T W ek) → PE X v (MV X.K T W ev) → BP X T W ks vs ps → BP X T W (some k :: ks) (v :: vs) ((ek, ev) :: ps)
theorem BP.pps {ks : List (Option Expr)} {vs : List Expr} {ps : List (Mi.E × Mi.E)} (h : BP X T W ks vs ps) : PPs X pos ks vs (ps.map fun p => (MV X.K T W p.1, MV X.K T W p.2)) := by
  induction h with
  | nil => exact pps_nil
  | cons hk hv _ ih => exact pps_cons hk hv ih
theorem BP.all {ks : List (Option Expr)} {vs : List Expr} {ps : List (Mi.E × Mi.E)} (h : BP X T W ks vs ps) : ks.all (·.isSome) = true ∧ ks.length = vs.length ∧ ks.length = ps.length := by
  induction h with
  | nil => exact ⟨rfl, rfl, rfl⟩
  | cons hk hv _ ih => exact ⟨by simp [ih.1], by simp [ih.2.1], by simp [ih.2.2]⟩
theorem tPairs_of {K : PySem.W.Frag} : ∀ (ps : List (Mi.E × Mi.E)) {α F env cs} {σ : L2.St} {H : Hp} {Q : List (V × V) → Hp → Prop}, RC K T α F cs H → Ev K T α F env σ →
    Out K T W σ α F H (Mi.dPairs ps env cs) (fun α' F' _ H' qs => ∀ us, Rps K T α' F' (qs.map (·.1)) (us.map (·.1)) → Rps K T α' F' (qs.map (·.2)) (us.map (·.2)) → Q us H') → tPairs (ps.map fun p => (MV K T W p.1, MV K T W p.2)) σ H Q
  | [], α, F, env, cs, σ, H, Q, rc, ev, h => h.v (Nx.refl _ _ _) rc [] rfl rfl
  | (k, v) :: ps, α, F, env, cs, σ, H, Q, rc, ev, h => by
    refine ⟨α, F, env, cs, rc, ev, (show Out K T W σ α F H (Mi.bnd (k env cs) fun x cs => Mi.bnd (v env cs) fun y cs => Mi.bnd (Mi.dPairs ps env cs) fun ps cs => some (.v ((x, y) :: ps) cs)) _ from h).bnd.mono fun α1 F1 cs1 H1 x lt1 rc1 o1 a r1 => ?_⟩
    refine ⟨α1, F1, env, cs1, rc1, ev.mono lt1.toLt, o1.bnd.mono fun α2 F2 cs2 H2 y lt2 rc2 o2 b r2 => ?_⟩
    refine tPairs_of ps rc2 (ev.mono (lt1.trans lt2).toLt) (o2.bnd.mono fun α3 F3 cs3 H3 qs lt3 rc3 o3 us u1 u2 => ?_)
    refine o3.v (Nx.refl _ _ _) rc3 ((a, b) :: us) ?_ ?_
    · exact ⟨a, _, rfl, Rp.mono (lt2.trans lt3).toLt _ _ r1, u1⟩
    · exact ⟨b, _, rfl, Rp.mono lt3.toLt _ _ r2, u2⟩
theorem merge_of {K : PySem.W.Frag} {α F} : ∀ {qs : List (Mi.D × Mi.D)} {kvs acc : List (Key × V)} {ks ws : List Mi.D}, (∀ q ∈ qs, Mi.isKey q.1 = true) → qs.map (·.1) = kvs.map (fun p => keyD p.1) → Rps K T α F (qs.map (·.2)) (kvs.map (·.2)) →
    acc.map (fun p => keyD p.1) = ks → Rps K T α F ws (acc.map (·.2)) → (mergeK acc kvs).map (fun p => keyD p.1) = (Mi.puts qs (ks, ws)).1 ∧ Rps K T α F (Mi.puts qs (ks, ws)).2 ((mergeK acc kvs).map (·.2))
  | [], [], acc, ks, ws, _, _, _, e, r => ⟨e, r⟩
  | [], _ :: _, _, _, _, _, e, _, _, _ => by simp at e
  | _ :: _, [], _, _, _, _, e, _, _, _ => by simp at e
  | q :: qs, kv :: kvs, acc, ks, ws, hk, e, r, ea, ra => by
    rw [List.map_cons, List.map_cons] at e
    obtain ⟨e1, e2⟩ := List.cons.inj e
    obtain ⟨v, s, es, r1, r2⟩ := r
    rw [List.map_cons] at es
    cases es
    subst ea
    obtain ⟨p1, p2⟩ := put_of (k := kv.1) (d := q.2) (u := kv.2) ra r1
    have := merge_of (acc := putK acc kv.1 kv.2) (fun q' hq' => hk q' (List.mem_cons_of_mem _ hq')) e2 r2 p1 p2
    rw [← e1] at this
    exact this
theorem keys_of {K : PySem.W.Frag} {α F} : ∀ {qs : List (Mi.D × Mi.D)} {us : List (V × V)}, (∀ q ∈ qs, Mi.isKey q.1 = true) → Rps K T α F (qs.map (·.1)) (us.map (·.1)) → ∃ kvs : List (Key × V), us = kvs.map (fun kv => (kV kv.1, kv.2)) ∧ qs.map (·.1) = kvs.map (fun p => keyD p.1)
  | [], [], _, _ => ⟨[], rfl, rfl⟩
  | [], u :: us, _, r => by
    have e : List.map (·.1) (u :: us) = [] := r
    cases e
  | q :: qs, [], _, r => by
    obtain ⟨v, s, e, _⟩ := r
    cases e
  | q :: qs, u :: us, hk, r => by
    obtain ⟨v, s, e, r1, r2⟩ := r
    rw [List.map_cons] at e
    cases e
    obtain ⟨k, e1, e2⟩ := key_of (hk q List.mem_cons_self) r1
    obtain ⟨kvs, e3, e4⟩ := keys_of (fun q' hq' => hk q' (List.mem_cons_of_mem _ hq')) r2
    refine ⟨(k, u.2) :: kvs, ?_, ?_⟩
    · rw [List.map_cons, ← e3]
      show u :: us = (kV k, u.2) :: us
      rw [← e1]
    · rw [List.map_cons, List.map_cons, ← e4, ← e2]
theorem Out.bnd2 {K : PySem.W.Frag} {A B : Type} {σ : L2.St} {α : List Addr} {F H H0 : Hp} {m : Option (Mi.R A)} {f : A → Mi.Cs → Option (Mi.R B)} {k : List Addr → Hp → Mi.Cs → Hp → B → Prop} {k' : List Addr → Hp → Mi.Cs → Hp → A → Prop} (lt : Nx α F H α F H0) (h : Out K T W σ α F H (Mi.bnd m f) k)
    (hk : ∀ α1 F1 cs1 H1 a, Nx α F H0 α1 F1 H1 → RC K T α1 F1 cs1 H1 → Out K T W σ α F H (f a cs1) k → k' α1 F1 cs1 H1 a) : Out K T W σ α F H0 m k' := by
  match m, h with
  | some (.v a cs), h => exact fun α' F' H' lt rc => hk _ _ _ _ _ lt rc h
  | some (.x c cs), h => exact fun α' F' H' C nm lt' rc t => h α' F' H' C nm (lt.trans lt') rc t
  | none, h => exact h.elim
theorem RC.other {K : PySem.W.Frag} {α F cs H} (r : RC K T α F cs H) {p : Addr} {o : HO} (hf : F p = none) (ha : p ∉ α) : RC K T α F cs (upd H p o) := by
  refine ⟨fun b u e => ?_, r.len, r.nd, r.out, fun k a c h1 h2 => ?_⟩
  · rw [upd_ne (ne_of_none e hf)]
    exact r.same _ _ e
  · refine (r.ok k a c h1 h2).heap (upd_ne fun z => ha ?_)
    subst z
    exact List.mem_of_getElem? h1
theorem br_dict {ks : List (Option Expr)} {vs : List Expr} {ps : List (Mi.E × Mi.E)} (h : BP X T W ks vs ps) (h0 : ks ≠ []) (h15 : ks.length ≤ 15) : PE X (.Dict ks vs pos) (MV X.K T W (Mi.eDc ps)) := by
  refine PE.imp (pe_disp h.pps h.all.1 h.all.2.1 h0 h15) fun σ H Q h => ?_
  obtain ⟨α, F, env, cs, rc, ev, h⟩ := h
  intro p hp
  have rc1 := rc.alloc (o := .dK []) hp
  obtain ⟨hf, ha⟩ := rc.new_out hp
  refine tPairs_of ps rc1 ev (Out.bnd2 (Nx.alloc hp) h fun α1 F1 cs1 H1 qs lt1 rc1 o1 us r1 r2 => ?_)
  obtain ⟨e1, f1, a1⟩ := lt1.fr p _ upd_same hf ha
  by_cases hq : (qs.all (fun q => Mi.isKey q.1) && decide (qs.length ≤ 15)) = true
  · rw [if_pos hq] at o1
    rw [Bool.and_eq_true] at hq
    have hk : ∀ q ∈ qs, Mi.isKey q.1 = true := List.all_eq_true.mp hq.1
    obtain ⟨kvs, e2, e3⟩ := keys_of hk r1
    subst e2
    have r2' : Rps X.K T α1 F1 (qs.map (·.2)) (kvs.map (·.2)) := by
      rw [List.map_map] at r2
      exact r2
    obtain ⟨m1, m2⟩ := merge_of (acc := []) (ks := []) (ws := []) hk e3 r2' rfl rfl
    have hl : kvs.length ≤ 15 := by
      have := congrArg List.length e3
      rw [List.length_map, List.length_map] at this
      have := of_decide_eq_true hq.2
      omega
    refine ⟨e1, kvs, rfl, hl, ?_⟩
    have rc2 := rc1.other (o := .dK (mergeK [] kvs)) f1 a1
    have nx0 : Nx α F H α1 F1 (upd H1 p (.dK (mergeK [] kvs))) := by
      refine ⟨lt1.toLt, fun b u q1 q2 q3 => ?_, fun b q => ?_⟩
      · have hb := ne_of_none q1 hp
        have := lt1.fr b u (by rw [upd_ne hb]; exact q1) q2 q3
        rw [upd_ne hb]
        exact this
      · by_cases hb : b = p
        · subst hb
          exact hp
        · rw [upd_ne hb] at q
          have := lt1.dom b q
          rw [upd_ne hb] at this
          exact this
    obtain ⟨rc3, nx3⟩ := rc2.push nx0 hp f1 a1 (c := .dct (Mi.puts qs ([], [])).1 (Mi.puts qs ([], [])).2) ⟨_, upd_same, m1, m2⟩
    refine o1.v nx3 rc3 (.ref p) ⟨p, ?_, rfl⟩
    rw [← rc1.len, List.getElem?_append_right (Nat.le_refl _), Nat.sub_self]
    rfl
  · rw [if_neg hq] at o1
    exact o1.elim
theorem br_dict0 : PE X (.Dict [] [] pos) (MV X.K T W (Mi.eDc [])) := PE.imp pe_dnewK fun σ H Q h => by
  obtain ⟨α, F, env, cs, rc, ev, h⟩ := h
  intro p hp
  obtain ⟨hf, ha⟩ := rc.new_out hp
  obtain ⟨rc3, nx3⟩ := (rc.alloc (o := .dK []) hp).push (Nx.alloc hp) hp hf ha (c := .dct [] []) ⟨[], upd_same, rfl, rfl⟩
  refine Out.v h nx3 rc3 (.ref p) ⟨p, ?_, rfl⟩
  rw [← rc.len, List.getElem?_append_right (Nat.le_refl _), Nat.sub_self]
  rfl
end
end Br
end
section
set_option Elab.async false
set_option linter.all false
set_option maxRecDepth 100000
set_option maxHeartbeats 4000000
namespace Br
open PySem PySem.Spec PyProof.Rows L2
section
variable {X : Cx} {T : Tab} {W : WX} {a b c o tg : Expr} {ea eb ec : Mi.E} {l : Mi.EL} {es rest : List Expr} {pos apos cpos p p2 : Pos}
def rValsL : V → Hp → VK → Prop := fun x H Q => ∃ (d : Addr) (kvs : List (Key × V)), x = .ref d ∧ H d = some (.dK kvs) ∧ ∀ p, H p = none → Q (.ref p) (upd H p (.lst (kvs.map (·.2))))
theorem vals_items : ∀ {kvs : List (Key × V)} {vs : List (Key × Value)} {us : List Value}, KV kvs vs → us.length = vs.length → (∀ (i : Nat) u, us[i]? = some u → ∃ k, vs[i]? = some (k, u)) → Vals (kvs.map (·.2)) us
  | _, _, [], .nil, _, _ => .nil
  | _, _, _ :: _, .nil, h, _ => by simp at h
  | _, _, [], .cons _ _, h, _ => by simp at h
  | _, _, u :: us, .cons (a := p) (b := q) r t, h, hi => by
    obtain ⟨k, e⟩ := hi 0 u rfl
    have e1 : q = (k, u) := Option.some.inj e
    subst e1
    refine .cons r.2 (vals_items t (by simpa using h) fun i w e => ?_)
    have := hi (i + 1) w (by simpa using e)
    simpa using this
theorem pe_listVals {e : Expr} {te : TE} (hc : X.calm = true) (he : PE X e te) (hg : Gl X "list") (hm : X.mg "list" = none) (hbase : attributeBase e "values" X.env (eval e X.env) = eval e X.env := by rfl) (hline : (apos.endLine == cpos.line) = true := by rfl)
    (hs : starEach [.Call (.Attribute e "values" apos) [] [] cpos] X.env = (false, eval (.Call (.Attribute e "values" apos) [] [] cpos) X.env) :: starEach [] X.env := by rfl) :
    PE X (.Call (.Name "list" p) [.Call (.Attribute e "values" apos) [] [] cpos] [] pos) (fun σ H Q => te σ H fun x H1 => rValsL x H1 Q) := by
  constructor
  intro pins s σ H Q I hq
  apply wpAny_Call_Name_kw
  apply ld_blt I hg hm PyProof.Rows.boot_list
  apply PyProof.Rows.callWith_type1 _ hs rfl
  rw [hs]
  change wpAny _ _ (spliced ((false, eval (.Call (.Attribute e "values" apos) [] [] cpos) X.env) :: backTo pos (starEach [] X.env))) _ X.xe s
  refine Calls.spliced_cons ?_
  apply wpAny_Call_method (T := "dict") (id := "dict.values") hbase rfl hline F.plainAttrs_dict F.slot_dict_values F.type_dict_values
  apply thn (he.run pins s σ H _ I hq)
  rintro u s1 ⟨x, H1, I1, rx, d, kvs, rfl, hd, q⟩
  obtain rfl : u = Value.ref d := rx
  obtain ⟨hz, lo, vs, kv, hdo⟩ := I1.hok d _ hd
  obtain ⟨ep, hat⟩ := hdo.dictAt
  have lk : kvs.length = vs.length := Paired.length kv
  have I2 : Inv X pins σ H1 { s1 with heap := s1.heap.push { cls := .type "dict_values", data := .fields #[.ref d] } } := I1.kept (t' := s1.toks) fun b ob q => Heap.get?_push_of_some _ q
  constructor
  · exact hdo.typeIs
  constructor
  · exact hdo.mapOf.noDict
  apply method_meetsIn F.slot_dict_values F.entry_dict_values rfl
  apply PySem.evalArgs_none
  constructor
  · rfl
  constructor
  · exact hdo.typeIs
  constructor
  · exact F.args_dict_values_1 _
  refine ⟨_, meets_dict_values (mixKind X.prog X.w) d lo, ⟨vs, hdo⟩, ?_⟩
  apply Calls.spliced_nil
  apply PySem.W.kdl_call (PySem.W.kdl_values (knd := mixKind X.prog X.w) (kvs := vs) (ep := ep)) (I1.ok.hd hc) ⟨⟨_, Heap.get?_push_size _ rfl, rfl, rfl⟩, hat.push _⟩ (by omega)
  intro h' tk acc c hk hS hi
  have hl : acc.toList.length = vs.length := by rw [Array.length_toList]; exact hi.1
  have rv : Vals (kvs.map (·.2)) acc.toList := vals_items kv hl fun i w e => hi.2 i w (by rw [← Array.getElem?_toList]; exact e)
  have new := I2.hok.fresh (Nat.le_refl _)
  exact ⟨.ref _, upd H1 _ (.lst (kvs.map (·.2))), I2.laid (t' := tk) hk (Nat.le_refl _) (show ObjOk X.prog X.w _ _ _ (.lst (kvs.map (·.2))) from ⟨by rw [List.length_map]; exact hz, acc.toList, c, rv, by rw [Array.toArray_toList]; exact hS⟩), rfl, q _ new⟩
theorem bl_vals {e : Expr} (hc : X.calm = true) (he : PE X e (MV X.K T W ea)) (hg : Gl X "list") (hm : X.mg "list" = none) (hbase : attributeBase e "values" X.env (eval e X.env) = eval e X.env := by rfl) (hline : (apos.endLine == cpos.line) = true := by rfl)
    (hs : starEach [.Call (.Attribute e "values" apos) [] [] cpos] X.env = (false, eval (.Call (.Attribute e "values" apos) [] [] cpos) X.env) :: starEach [] X.env := by rfl) :
    PE X (.Call (.Name "list" p) [.Call (.Attribute e "values" apos) [] [] cpos] [] pos) (ML X.K T W (Mi.lVals ea)) := PE.imp (pe_listVals hc he hg hm hbase hline hs) fun σ H Q h => by
  obtain ⟨α, F, env, cs, rc, ev, h⟩ := h
  refine ⟨α, F, env, cs, rc, ev, h.bnd.mono fun α1 F1 cs1 H1 x lt1 rc1 o1 v r1 => ?_⟩
  obtain ⟨xs, e, _⟩ := o1.out rc1
  rw [e] at o1
  simp only [Option.map_eq_some_iff] at e
  obtain ⟨⟨n, ks, ws⟩, e1, rfl⟩ := e
  obtain ⟨a, kvs, rfl, ea, hH, hks, r⟩ := cellD_of rc1 r1 e1
  refine ⟨a, kvs, rfl, hH, fun p hp => ?_⟩
  obtain ⟨hf, ha⟩ := rc1.new_out hp
  exact o1.v (Nx.alloc hp) (rc1.alloc hp) p _ (lt1.dom p hp) upd_same hf ha r
end
end Br
end
section
set_option Elab.async false
set_option linter.all false
set_option maxRecDepth 100000
set_option maxHeartbeats 4000000
namespace Br
open PySem PySem.Spec PyProof.Rows L2
section
variable {P : Program} {w : World} {A : Around} {E : Value → Shared → Prop} {s : Shared}
abbrev eSet (w : World) : Obj := { cls := .type "set", dict := none, data := .set #[] 0 (.fresh 0 0 (!w.params.followText "set-order")) }
theorem set_ofList {l : Addr} {items : Array Value} (ns : List Int) {Q : Value → Shared → Prop} (hh : A.handled = none) (hl : s.heap.IsList l items) (hi : IntsAre items.toList ns) (hb : ns.length + 1 < scanBound)
    (h : ∀ (h' : Heap) (tk c : Nat), SetR w h' s.heap.objs.size (fun j => decide (j ∈ ns)) c → c ≤ ns.length → (∀ b o, s.heap.get? b = some o → h'.get? b = some o) → Q (.ref s.heap.objs.size) { s with heap := h', toks := tk }) :
    wpAny (model P w) A (call (.type "set") [.ref l]) Q E s := by
  have hn : items.size = ns.length := (Array.length_toList (xs := items)).symm.trans hi.length
  obtain ⟨⟨cls, od, dat, sl⟩, ho, hc, nl, hd⟩ := hl
  dsimp only at hc hd
  subst hc
  subst hd
  have lt : l < s.heap.objs.size := Heap.lt_size ho
  have L1 : (s.heap.push (eSet w)).IsList l items := ⟨_, Heap.get?_push_of_some _ ho, rfl, nl, rfl⟩
  have ho1 : (s.heap.push (eSet w)).get? l = some { cls := .type "list", dict := od, data := .seq items nl, slots := sl } := Heap.get?_push_of_some _ ho
  have S1 : (s.heap.push (eSet w)).get? s.heap.objs.size = some (eSet w) := Heap.get?_push_size _ rfl
  have T1 : Shared.TypeIs { s with heap := s.heap.push (eSet w) } (.ref s.heap.objs.size) "set" := ⟨_, S1, rfl⟩
  have sz : (s.heap.push (eSet w)).objs.size = s.heap.objs.size + 1 := Heap.size_push ..
  have f1 := F.sub_list_set
  have f2 := F.sub_list_frozenset
  have f3 : (Value.type "list" == Value.type "dict") = false := by decide
  obtain ⟨cm, tm, mro⟩ := F.called_set.mro
  have q1 := F.called_set.made
  have q2 := F.called_set.sub
  have q3 := F.called_set.notType
  have q4 := F.called_set.canCreate
  have q5 := F.typeCall_set_1 (.ref l)
  have q6 := F.called_set.init.lookup
  have q7 := F.called_set.init.bind (.ref s.heap.objs.size)
  refine wpAny_call (codeAny_of_tree ?_)
  change wpAny _ _ (callAny (.type "set") _) _ _ _
  refine wpAny_pure ⟨Code.quiet_builtin _ (by decide +kernel), codeAny_builtin F.entry_type_call ?_⟩
  rw [Around.under_plain (weight_type_call_type "set" [.ref l] []) rfl]
  repeat (any_goals (first | assumption | wp_step))
  refine codeAny_mono (code_set_led1 (.ref l) (E := E) (Q₁ := fun obj s₁ => obj = .ref s.heap.objs.size ∧ s₁ = { s with heap := s.heap.push (eSet w) }) ⟨rfl, rfl⟩) ?_
  intro r1 s1 hr
  cases r1 with
  | error e => exact hr
  | ok fl =>
    cases fl with
    | next => exact hr.elim
    | brk => exact hr.elim
    | cont => exact hr.elim
    | ret obj =>
      have hr : obj = .ref s.heap.objs.size ∧ s1 = { s with heap := s.heap.push (eSet w) } := hr
      obtain ⟨e1, e2⟩ := hr
      subst e1
      subst e2
      repeat (any_goals (first | assumption | wp_step))
      refine codeAny_mono (codeAny_call_builtin (R := wants (fun r s₂ => r = .none ∧ ∃ h' tk c, s₂ = { s with heap := h', toks := tk } ∧ SetR w h' s.heap.objs.size (fun j => decide (j ∈ ns)) c ∧ c ≤ ns.length ∧ (∀ b o, s.heap.get? b = some o → h'.get? b = some o)) E)
        F.called_set.init.plain F.entry_set_init (check_set_init_1 T1 ?fill)) ?_
      case fill =>
        unfold Builtin.«set.__init__» noKeywords Builtin.Frozenset.updateFrom
        generalize hPI : pyIter = PI
        wp_walk
        subst hPI
        have h3 : A.in1.in1.in1.handled = none := hh
        have lI : l ≠ (s.heap.push (eSet w)).objs.size := by
          rw [sz]
          exact Nat.ne_of_lt (Nat.lt_succ_of_lt lt)
        have sf : s.heap.objs.size ∉ [(s.heap.push (eSet w)).objs.size, l] := by
          rw [sz]
          simp only [List.mem_cons, List.not_mem_nil, or_false, not_or]
          exact ⟨Nat.ne_of_lt (Nat.lt_succ_self _), Nat.ne_of_gt lt⟩
        apply wpAny_pyIter_list L1
        apply wpAny_bind
        apply wpAny_runValue
        apply set_update_ints ((Walks.list h3 _ l lI items).toS) s.heap.objs.size sf ns hn hb (k := items.size) (i := 0)
        · intro i v hv
          have hlt : i < ns.length := by
            rw [← hn]
            exact (Array.getElem?_eq_some_iff.mp hv).1
          obtain ⟨t, e⟩ := IntsAre.int_at hi i v (by rw [Array.getElem?_toList]; exact hv)
          rw [List.getD_eq_getElem?_getD, List.getElem?_eq_getElem hlt] at e
          exact ⟨ns[i], t, List.getElem?_eq_getElem hlt, e⟩
        · rfl
        · exact Nat.zero_le _
        · exact ⟨⟨_, Heap.get?_push_size _ rfl, rfl, rfl⟩, L1.push _⟩
        · exact ⟨0, Nat.le_refl 0, setR_new_at (Heap.get?_push_of_some _ S1)⟩
        · intro s2 c m hcc R2
          obtain ⟨h', g2, d2, t2, os2⟩ := s2
          obtain rfl : g2 = s.gens := m.gens
          obtain rfl : d2 = s.drawn := m.drawn
          obtain rfl : os2 = s.os := m.os
          apply wpAny_pure
          apply wpAny_pure
          refine ⟨rfl, h', t2, c, rfl, R2, by rw [← hn]; exact hcc, fun b o e => ?_⟩
          have lb : b < s.heap.objs.size := Heap.lt_size e
          refine m.heap b o ?_ (Heap.get?_push_of_some _ (Heap.get?_push_of_some _ e))
          rw [sz]
          simp only [List.mem_cons, List.not_mem_nil, or_false, not_or]
          exact ⟨Nat.ne_of_lt lb, Nat.ne_of_lt (Nat.lt_succ_of_lt lb)⟩

      intro r2 s2 hr
      cases r2 with
      | error e => exact hr
      | ok fl =>
        cases fl with
        | next => exact hr.elim
        | brk => exact hr.elim
        | cont => exact hr.elim
        | ret obj =>
          obtain ⟨e0, h', tk, c, e1, R, hcc, kp⟩ := hr
          subst e0
          subst e1
          repeat (any_goals (first | assumption | wp_step))
          exact h h' tk c R hcc kp
end
def rSetL (K : PySem.W.Frag) (w : World) : List V → Hp → VK → Prop := fun vs H Q => ∃ (a : Addr) (ns : List Int), vs = [.ref a] ∧ SqL K H a (ns.map V.int) ∧ ns.length + 1 < scanBound ∧ ∀ p c, c ≤ ns.length → H p = none → Q (.ref p) (upd H p (SetO w p (fun j => decide (j ∈ ns)) c))
theorem cr_setL {X : Cx} (hc : X.calm = true) : CallR X (.type "set") (rSetL X.K X.w) := by
  intro pins s σ H vs us Q I r h
  obtain ⟨a, ns, rfl, hs, hb, q⟩ := h
  obtain ⟨its, rv, hl, hz⟩ := I.list hs
  rw [Vals.ref1 r]
  refine set_ofList ns (I.ok.hd hc) hl.isList (by simpa using rv.ints) hb fun h' tk c R hcc k => ?_
  exact ⟨.ref _, upd H s.heap.objs.size (SetO X.w s.heap.objs.size (fun j => decide (j ∈ ns)) c), I.laid (t' := tk) k (Nat.le_refl _) (setO_new R), rfl, q _ c hcc (I.hok.fresh (Nat.le_refl _))⟩
theorem insS_mem (i k : Int) : ∀ l : List Int, k ∈ Mi.insS i l ↔ k = i ∨ k ∈ l
  | [] => by simp [Mi.insS]
  | j :: r => by
    unfold Mi.insS
    split
    · simp
    · split
      · rename_i h1 h2
        subst h2
        simp
      · rw [List.mem_cons, insS_mem i k r, List.mem_cons]
        constructor
        · rintro (h | h | h)
          · exact .inr (.inl h)
          · exact .inl h
          · exact .inr (.inr h)
        · rintro (h | h | h)
          · exact .inr (.inl h)
          · exact .inl h
          · exact .inr (.inr h)
theorem insS_srt (i : Int) : ∀ l : List Int, l.Pairwise (· < ·) → (Mi.insS i l).Pairwise (· < ·)
  | [], _ => by simp [Mi.insS]
  | j :: r, h => by
    obtain ⟨h1, h2⟩ := List.pairwise_cons.mp h
    unfold Mi.insS
    split
    · rename_i hl
      refine List.pairwise_cons.mpr ⟨fun k hk => ?_, h⟩
      rcases List.mem_cons.mp hk with e | hk
      · rw [e]
        exact hl
      · exact Int.lt_trans hl (h1 k hk)
    · split
      · exact h
      · refine List.pairwise_cons.mpr ⟨fun k hk => ?_, insS_srt i r h2⟩
        rcases (insS_mem i k r).mp hk with e | hk
        · omega
        · exact h1 k hk
theorem sortS_srt : ∀ ns : List Int, (Mi.sortS ns).Pairwise (· < ·)
  | [] => List.Pairwise.nil
  | i :: ns => insS_srt i _ (sortS_srt ns)
theorem sortS_mem (k : Int) : ∀ ns : List Int, k ∈ Mi.sortS ns ↔ k ∈ ns
  | [] => by simp [Mi.sortS]
  | i :: ns => by
    show k ∈ Mi.insS i (Mi.sortS ns) ↔ _
    rw [insS_mem, sortS_mem k ns, List.mem_cons]
theorem srt_one : ∀ {l m : List Int}, l.Pairwise (· < ·) → m.Pairwise (· < ·) → (∀ k, k ∈ l ↔ k ∈ m) → l = m
  | [], [], _, _, _ => rfl
  | [], y :: m, _, _, h => by
    have := (h y).mpr List.mem_cons_self
    simp at this
  | x :: l, [], _, _, h => by
    have := (h x).mp List.mem_cons_self
    simp at this
  | x :: l, y :: m, hl, hm, h => by
    obtain ⟨l1, l2⟩ := List.pairwise_cons.mp hl
    obtain ⟨m1, m2⟩ := List.pairwise_cons.mp hm
    have e : x = y := by
      have a := (h x).mp List.mem_cons_self
      have b := (h y).mpr List.mem_cons_self
      rcases List.mem_cons.mp a with a | a
      · exact a
      · rcases List.mem_cons.mp b with b | b
        · exact b.symm
        · have := m1 x a
          have := l1 y b
          omega
    subst e
    rw [srt_one l2 m2 fun k => ?_]
    constructor
    · intro hk
      have := l1 k hk
      rcases List.mem_cons.mp ((h k).mp (List.mem_cons_of_mem _ hk)) with e | q
      · omega
      · exact q
    · intro hk
      have := m1 k hk
      rcases List.mem_cons.mp ((h k).mpr (List.mem_cons_of_mem _ hk)) with e | q
      · omega
      · exact q
theorem ints_of {K : PySem.W.Frag} {T : Tab} {α F} : ∀ {xs : List Mi.D} {vs : List V} {ns : List Int}, Rps K T α F xs vs → Mi.intsOf xs = some ns → vs = ns.map V.int
  | [], _, _, r, e => by
    cases e
    exact r
  | x :: xs, _, ns, r, e => by
    obtain ⟨v, s, rfl, r1, r2⟩ := r
    cases x <;> simp only [Mi.intsOf, reduceCtorEq, Option.map_eq_some_iff] at e
    obtain ⟨ms, e1, rfl⟩ := e
    have ev : v = .int _ := r1
    rw [ev, ints_of r2 e1]
    rfl
section
variable {X : Cx} {T : Tab} {W : WX} {a : Expr} {ea : Mi.E} {pos p p2 pos2 : Pos}
theorem bl_sortSet (hc : X.calm = true) (hg : Gl X "sorted") (hm : X.mg "sorted" = none) (hg2 : Gl X "set") (hm2 : X.mg "set" = none) (ha : PE X a (MV X.K T W ea)) (na : starEach [a] X.env = (false, eval a X.env) :: starEach [] X.env := by rfl)
    (na2 : starEach [.Call (.Name "set" p2) [a] [] pos2] X.env = (false, eval (.Call (.Name "set" p2) [a] [] pos2) X.env) :: starEach [] X.env := by rfl) :
    PE X (.Call (.Name "sorted" p) [.Call (.Name "set" p2) [a] [] pos2] [] pos) (ML X.K T W (Mi.lSortSet ea)) := by
  refine PE.imp (pe_callB (cr_sortedSet hc) hg hm boot_sorted (pa_cons (pe_callTy (cr_setL hc) hg2 hm2 PyProof.Rows.boot_set (pa_cons ha pa_nil na) (he := na)) pa_nil na2) (he := na2)) fun σ H Q h => ?_
  obtain ⟨α, F, env, cs, rc, ev, h⟩ := h
  refine ⟨α, F, env, cs, rc, ev, h.bnd.mono fun α1 F1 cs1 H1 x lt1 rc1 o1 v r1 => ?_⟩
  obtain ⟨xs, e, _⟩ := o1.out rc1
  rw [e] at o1
  simp only [Option.bind_eq_some_iff] at e
  obtain ⟨ns, ⟨ys, e1, e2⟩, e3⟩ := e
  by_cases hl : ns.length < 64
  · rw [if_pos hl] at e3
    cases e3
    obtain ⟨q, vs, rfl, s, r⟩ := lstOf_of rc1 r1 e1
    rw [ints_of r e2] at s
    refine ⟨q, ns, rfl, s, by unfold scanBound; omega, fun p c hcc hp => ?_⟩
    refine ⟨p, _, c, rfl, upd_same, by omega, fun ms p2 h1 h2 _ hp2 => ?_⟩
    have em : ms = Mi.sortS ns := srt_one h1 (sortS_srt ns) fun k => by
      rw [h2 k, sortS_mem]
      exact decide_eq_true_iff
    subst em
    have rc2 := rc1.alloc (o := SetO X.w p (fun j => decide (j ∈ ns)) c) hp
    have nx2 := Nx.alloc (α := α1) (F := F1) (o := SetO X.w p (fun j => decide (j ∈ ns)) c) hp
    obtain ⟨hf, ha⟩ := rc2.new_out hp2
    exact o1.v (nx2.trans (Nx.alloc hp2)) (rc2.alloc hp2) p2 _ (lt1.dom p2 (nx2.dom p2 hp2)) upd_same hf ha (Rps.of_ints _)
  · rw [if_neg hl] at e3
    cases e3
end
end Br
end
section
set_option Elab.async false
set_option linter.all false
set_option maxRecDepth 100000
set_option maxHeartbeats 4000000
namespace Br
open PySem PySem.Spec PyProof.Rows L2
theorem hu65_of {A : Around} {k : Nat} (hr : Room k A) : A.units + 65 < cLine := by have := hr.un; omega
theorem hu66_of {A : Around} {k : Nat} (hr : Room k A) : A.units + 66 < cLine := by have := hr.un; omega
section
variable {T : Tab} {K : PySem.W.Frag}
theorem o_min2 : Op2 K T (fun v w H Q => ∃ i j, [v, w] = [V.int i, V.int j] ∧ Q (.int (if j < i then j else i)) H) Mi.oMin2 := by
  intro α F cs H x y z v w rc rx ry e Q q
  unfold Mi.oMin2 at e
  split at e
  · cases e
    have ev : v = .int _ := rx
    have ew : w = .int _ := ry
    subst ev
    subst ew
    exact ⟨_, _, rfl, q α F H _ (Nx.refl _ _ _) rc rfl⟩
  · cases e
theorem o_max2 : Op2 K T (fun v w H Q => ∃ i j, [v, w] = [V.int i, V.int j] ∧ Q (.int (if j > i then j else i)) H) Mi.oMax2 := by
  intro α F cs H x y z v w rc rx ry e Q q
  unfold Mi.oMax2 at e
  split at e
  · cases e
    have ev : v = .int _ := rx
    have ew : w = .int _ := ry
    subst ev
    subst ew
    exact ⟨_, _, rfl, q α F H _ (Nx.refl _ _ _) rc rfl⟩
  · cases e
end
theorem rps_ints {K : PySem.W.Frag} {T : Tab} {α : List Addr} {F : Hp} : ∀ ns : List Int, Rps K T α F (ns.map Mi.D.int) (ns.map V.int)
  | [] => rfl
  | n :: ns => ⟨_, _, rfl, rfl, rps_ints ns⟩
theorem sp_script {K : PySem.W.Frag} {T : Tab} {f : Mi.Fn} {H : Hp} {a : Addr} {ns : List Int} (hS : SqL K H a (ns.map V.int)) (h : ∃ cs, f [.fro (ns.map .int)] [] = some (.v (.bl true) cs)) :
    spM K T f [.ref a] H (fun v _ => v = .bl true) (fun _ _ _ => False) := by
  obtain ⟨cs, e⟩ := h
  refine ⟨[], H, [], [.fro (ns.map .int)], ⟨fun _ _ h => h, rfl, List.nodup_nil, fun _ h => absurd h List.not_mem_nil, fun _ _ _ h _ => by simp at h⟩, ⟨_, _, rfl, ⟨a, _, rfl, hS, rps_ints ns⟩, rfl⟩, ?_⟩
  rw [e]
  exact fun α' F' H' _ _ v r => r
end Br
end
section
set_option linter.all false
namespace Mi
open PySem
def got {β : Type} (m : Option β) (Q : β → Prop) : Prop := ∃ b, m = some b ∧ Q b
def kont {α β : Type} (f : α → Cs → Option (R β)) (Q : R β → Prop) : R α → Prop
  | .v a cs => got (f a cs) Q
  | .x c cs => Q (.x c cs)
def kontS {α : Type} (env : Env) (f : α → Cs → Option O) (Q : O → Prop) : R α → Prop
  | .v a cs => got (f a cs) Q
  | .x c cs => Q (.x c env cs)
def seqK (b : S) (Q : O → Prop) : O → Prop
  | .nx env cs => got (b env cs) Q
  | o => Q o
section
variable {α β γ : Type} {Q : β → Prop}
@[simp] theorem got_some {b : β} : got (some b) Q = Q b := by simp [got]
@[simp] theorem got_none : got (none : Option β) Q = False := by simp [got]
@[simp] theorem got_map {m : Option α} {f : α → β} : got (m.map f) Q = got m fun a => Q (f a) := by cases m <;> simp
@[simp] theorem got_bind {m : Option α} {f : α → Option β} : got (m.bind f) Q = got m fun a => got (f a) Q := by cases m <;> simp
@[simp] theorem got_ite {c : Prop} [Decidable c] {a b : Option β} : got (if c then a else b) Q = if c then got a Q else got b Q := by split <;> rfl
theorem got.mono {m : Option β} {Q' : β → Prop} (h : got m Q) (i : ∀ b, Q b → Q' b) : got m Q' := by
  obtain ⟨b, e, q⟩ := h
  exact ⟨b, e, i b q⟩
theorem got.to {m : Option β} (h : got m Q) : ∃ b, m = some b ∧ Q b := h
variable {env : Env} {cs : Cs}
@[simp] theorem kont_v {a : α} {f : α → Cs → Option (R γ)} {Q : R γ → Prop} : kont f Q (.v a cs) = got (f a cs) Q := rfl
@[simp] theorem kont_x {c : Nat} {f : α → Cs → Option (R γ)} {Q : R γ → Prop} : kont f Q (.x c cs) = Q (.x c cs) := rfl
@[simp] theorem kontS_v {a : α} {f : α → Cs → Option O} {Q : O → Prop} : kontS env f Q (.v a cs) = got (f a cs) Q := rfl
@[simp] theorem kontS_x {c : Nat} {f : α → Cs → Option O} {Q : O → Prop} : kontS env f Q (.x c cs) = Q (.x c env cs) := rfl
@[simp] theorem seqK_nx {b : S} {Q : O → Prop} : seqK b Q (.nx env cs) = got (b env cs) Q := rfl
@[simp] theorem seqK_rt {b : S} {Q : O → Prop} {d} : seqK b Q (.rt d cs) = Q (.rt d cs) := rfl
@[simp] theorem seqK_bk {b : S} {Q : O → Prop} : seqK b Q (.bk env cs) = Q (.bk env cs) := rfl
@[simp] theorem seqK_ct {b : S} {Q : O → Prop} : seqK b Q (.ct env cs) = Q (.ct env cs) := rfl
@[simp] theorem seqK_x {b : S} {Q : O → Prop} {c} : seqK b Q (.x c env cs) = Q (.x c env cs) := rfl
@[simp] theorem got_bnd {m : Option (R α)} {f : α → Cs → Option (R γ)} {Q : R γ → Prop} : got (bnd m f) Q = got m (kont f Q) := by
  match m with
  | none => simp [bnd]
  | some (.v a cs) => simp
  | some (.x c cs) => simp
@[simp] theorem got_out {m : Option α} {Q : R α → Prop} : got (out m cs) Q = got m fun a => Q (.v a cs) := by simp [out]
@[simp] theorem got_thn {m : Option (R α)} {f : α → Cs → Option O} {Q : O → Prop} : got (thn env m f) Q = got m (kontS env f Q) := by
  match m with
  | none => simp [thn]
  | some (.v a cs) => simp
  | some (.x c cs) => simp
end
section
variable {env : Env} {cs : Cs} {Q : R D → Prop} {QL : R (List D) → Prop} {QS : O → Prop} {QI : R It → Prop}
@[simp] theorem got_eVar {i : Nat} : got (eVar i env cs) Q = got (env[i]?.bind id) fun d => Q (.v d cs) := by
  unfold eVar
  match env[i]? with
  | none => simp
  | some none => simp
  | some (some d) => simp
@[simp] theorem got_eC {d : D} : got (eC d env cs) Q = Q (.v d cs) := by simp [eC]
@[simp] theorem got_e1 {op a} : got (e1 op a env cs) Q = got (a env cs) (kont (fun x cs => out (op cs x) cs) Q) := by simp [e1]
@[simp] theorem got_e2 {op a b} : got (e2 op a b env cs) Q = got (a env cs) (kont (fun x cs => bnd (b env cs) fun y cs => out (op cs x y) cs) Q) := by simp [e2]
@[simp] theorem got_aNil : got (aNil env cs) QL = QL (.v [] cs) := by simp [aNil]
@[simp] theorem got_aCons {a r} : got (aCons a r env cs) QL = got (a env cs) (kont (fun x cs => bnd (r env cs) fun xs cs => some (.v (x :: xs) cs)) QL) := by simp [aCons]
@[simp] theorem got_eL {l} : got (eL l env cs) Q = got (l env cs) (kont (fun xs cs => some (.v (.lst xs) cs)) Q) := by simp [eL]
@[simp] theorem got_eLc {l} : got (eLc l env cs) Q = got (l env cs) (kont (fun xs cs => some (.v (.cell cs.length) (cs ++ [.lst xs]))) Q) := by simp [eLc]
@[simp] theorem got_eTup {l} : got (eTup l env cs) Q = got (l env cs) (kont (fun xs cs => if xs.length ≤ SIZE then some (.v (.tup xs) cs) else none) Q) := by simp [eTup]
@[simp] theorem got_lDisp {l} : got (lDisp l env cs) QL = got (l env cs) (kont (fun xs cs => if xs.length ≤ SIZE then some (.v xs cs) else none) QL) := by simp [lDisp]
@[simp] theorem got_eDc {ps} : got (eDc ps env cs) Q = got (dPairs ps env cs) (kont (fun qs cs => if qs.all (fun q => isKey q.1) && decide (qs.length ≤ 15) then some (.v (.cell cs.length) (cs ++ [.dct (puts qs ([], [])).1 (puts qs ([], [])).2])) else none) Q) := by simp [eDc]
@[simp] theorem got_dNil {Q : R (List (D × D)) → Prop} : got (dPairs [] env cs) Q = Q (.v [] cs) := by simp [dPairs]
@[simp] theorem got_dCons {k v r} {Q : R (List (D × D)) → Prop} : got (dPairs ((k, v) :: r) env cs) Q = got (k env cs) (kont (fun x cs => bnd (v env cs) fun y cs => bnd (dPairs r env cs) fun ps cs => some (.v ((x, y) :: ps) cs)) Q) := by simp [dPairs]
def boolK (f g : Cs → Prop) : R D → Prop
  | .v (.bl true) cs => f cs
  | .v (.bl false) cs => g cs
  | .v _ _ => False
  | .x _ _ => False
def testK (X : Nat → Cs → Prop) (f g : Cs → Prop) : R D → Prop
  | .v (.bl b) cs => if b = true then f cs else g cs
  | .v _ _ => False
  | .x c cs => X c cs
@[simp] theorem testK_bl {X f g} {b : Bool} : testK X f g (.v (.bl b) cs) = (if b = true then f cs else g cs) := rfl
@[simp] theorem testK_x {X f g} {c : Nat} : testK X f g (.x c cs) = X c cs := rfl
@[simp] theorem got_eAnd {a b} : got (eAnd a b env cs) Q = got (a env cs) (testK (fun c cs => Q (.x c cs)) (fun cs => got (b env cs) Q) (fun cs => Q (.v (.bl false) cs))) := by
  simp only [eAnd, got_bnd]
  congr 1
  funext r
  match r with
  | .x c cs => rfl
  | .v (.bl true) cs => simp
  | .v (.bl false) cs => simp
  | .v .non cs => simp [testK]
  | .v (.int _) cs => simp [testK]
  | .v (.str _) cs => simp [testK]
  | .v (.tup _) cs => simp [testK]
  | .v (.lst _) cs => simp [testK]
  | .v (.dct _ _) cs => simp [testK]
  | .v (.obj _ _) cs => simp [testK]
  | .v (.cell _) cs => simp [testK]
  | .v (.fro _) cs => simp [testK]
@[simp] theorem got_eOr {a b} : got (eOr a b env cs) Q = got (a env cs) (testK (fun c cs => Q (.x c cs)) (fun cs => Q (.v (.bl true) cs)) (fun cs => got (b env cs) Q)) := by
  simp only [eOr, got_bnd]
  congr 1
  funext r
  match r with
  | .x c cs => rfl
  | .v (.bl true) cs => simp
  | .v (.bl false) cs => simp
  | .v .non cs => simp [testK]
  | .v (.int _) cs => simp [testK]
  | .v (.str _) cs => simp [testK]
  | .v (.tup _) cs => simp [testK]
  | .v (.lst _) cs => simp [testK]
  | .v (.dct _ _) cs => simp [testK]
  | .v (.obj _ _) cs => simp [testK]
  | .v (.cell _) cs => simp [testK]
  | .v (.fro _) cs => simp [testK]
@[simp] theorem got_eIf {t a b} : got (eIf t a b env cs) Q = got (t env cs) (testK (fun c cs => Q (.x c cs)) (fun cs => got (a env cs) Q) (fun cs => got (b env cs) Q)) := by
  simp only [eIf, got_bnd]
  congr 1
  funext r
  match r with
  | .x c cs => rfl
  | .v (.bl true) cs => simp
  | .v (.bl false) cs => simp
  | .v .non cs => simp [testK]
  | .v (.int _) cs => simp [testK]
  | .v (.str _) cs => simp [testK]
  | .v (.tup _) cs => simp [testK]
  | .v (.lst _) cs => simp [testK]
  | .v (.dct _ _) cs => simp [testK]
  | .v (.obj _ _) cs => simp [testK]
  | .v (.cell _) cs => simp [testK]
  | .v (.fro _) cs => simp [testK]
@[simp] theorem got_sIf {t : E} {a b : S} : got (sIf t a b env cs) QS = got (t env cs) (testK (fun c cs => QS (.x c env cs)) (fun cs => got (a env cs) QS) (fun cs => got (b env cs) QS)) := by
  simp only [sIf, got_thn]
  congr 1
  funext r
  match r with
  | .x c cs => rfl
  | .v (.bl true) cs => simp
  | .v (.bl false) cs => simp
  | .v .non cs => simp [testK]
  | .v (.int _) cs => simp [testK]
  | .v (.str _) cs => simp [testK]
  | .v (.tup _) cs => simp [testK]
  | .v (.lst _) cs => simp [testK]
  | .v (.dct _ _) cs => simp [testK]
  | .v (.obj _ _) cs => simp [testK]
  | .v (.cell _) cs => simp [testK]
  | .v (.fro _) cs => simp [testK]
@[simp] theorem got_lList {a} : got (lList a env cs) QL = got (a env cs) (kont (fun x cs => out (seqOf cs x) cs) QL) := by simp [lList]
@[simp] theorem got_lRange {a} : got (lRange a env cs) QL = got (a env cs) (kont (fun x cs => out (rngOf x) cs) QL) := by simp [lRange]
@[simp] theorem got_lVals {a} : got (lVals a env cs) QL = got (a env cs) (kont (fun x cs => out ((cellD cs x).map fun p => p.2.2) cs) QL) := by simp [lVals]
@[simp] theorem got_lBack {a} : got (lBack a env cs) QL = got (a env cs) (kont (fun x cs => out ((lstOf cs x).map List.reverse) cs) QL) := by simp [lBack]
@[simp] theorem got_lSorted {a} : got (lSorted a env cs) QL = got (a env cs) (kont (fun x cs => out ((lstOf cs x).bind sortD) cs) QL) := by simp [lSorted]
@[simp] theorem got_lSortSet {a} : got (lSortSet a env cs) QL = got (a env cs) (kont (fun x cs => out (((lstOf cs x).bind intsOf).bind fun ns => if ns.length < 64 then some ((sortS ns).map .int) else none) cs) QL) := by simp only [lSortSet, got_bnd]
@[simp] theorem got_lAdd {a b} : got (lAdd a b env cs) QL = got (a env cs) (kont (fun x cs => bnd (b env cs) fun y cs => out ((ownOf cs x).bind fun xs => (ownOf cs y).bind fun ys => if xs.length + ys.length ≤ SIZE then some (xs ++ ys) else none) cs) QL) := by simp only [lAdd, got_bnd]
@[simp] theorem got_lCut {a lo hi} : got (lCut a lo hi env cs) QL = got (a env cs) (kont (fun x cs => bnd (partE lo env cs) fun l cs => bnd (partE hi env cs) fun h cs => out ((lstOf cs x).map fun xs => cut xs l h) cs) QL) := by simp only [lCut, got_bnd]
@[simp] theorem got_pN {Q : R (Option Int) → Prop} : got (partE none env cs) Q = Q (.v none cs) := by simp [partE]
@[simp] theorem got_pS {e} {Q : R (Option Int) → Prop} : got (partE (some e) env cs) Q = got (e env cs) (kont (fun y cs => out (partOf (some y)) cs) Q) := by simp [partE]
@[simp] theorem got_lComp {vs i g t e} : got (lComp vs i g t e env cs) QL = got (i env cs) (kont (fun it cs => lcLoop (wipe env vs) g t e it.chk it.items [] cs) QL) := by simp [lComp]
@[simp] theorem got_m1 {ok op a as} : got (m1 ok op a as env cs) Q = got (a env cs) (kont (fun x cs => if ok cs x then (bnd (as env cs) fun ys cs => (op cs x ys).map fun p => .v p.1 p.2) else none) Q) := by
  simp only [m1, got_bnd]
  congr 2
  funext x cs
  split
  · congr 1
    funext ys cs
    cases op cs x ys <;> rfl
  · rfl
@[simp] theorem got_iLst {a} : got (iLst a env cs) QI = got (a env cs) (kont (fun x cs => out ((lstOf cs x).map fun xs => ⟨xs, stays cs x⟩) cs) QI) := by simp only [iLst, got_bnd]
@[simp] theorem got_iTup {a} : got (iTup a env cs) QI = got (a env cs) (kont (fun x cs => out ((tupOf x).map fun xs => ⟨xs, fun _ => true⟩) cs) QI) := by simp only [iTup, got_bnd]
def rangeK (QI : R It → Prop) : R D → Prop
  | .v (.int n) cs => okR n = true ∧ QI (.v ⟨rng 0 n, fun _ => true⟩ cs)
  | .v _ _ => False
  | .x c cs => QI (.x c cs)
@[simp] theorem rangeK_int {n : Int} : rangeK QI (.v (.int n) cs) = (okR n = true ∧ QI (.v ⟨rng 0 n, fun _ => true⟩ cs)) := rfl
@[simp] theorem rangeK_x {c : Nat} : rangeK QI (.x c cs) = QI (.x c cs) := rfl
@[simp] theorem got_iRange {a} : got (iRange a env cs) QI = got (a env cs) (rangeK QI) := by
  simp only [iRange, got_bnd]
  congr 1
  funext r
  match r with
  | .x c cs => rfl
  | .v (.int n) cs => simp
  | .v (.bl _) cs => simp [rangeK]
  | .v .non cs => simp [rangeK]
  | .v (.str _) cs => simp [rangeK]
  | .v (.tup _) cs => simp [rangeK]
  | .v (.lst _) cs => simp [rangeK]
  | .v (.dct _ _) cs => simp [rangeK]
  | .v (.obj _ _) cs => simp [rangeK]
  | .v (.cell _) cs => simp [rangeK]
  | .v (.fro _) cs => simp [rangeK]
@[simp] theorem got_sNext : got (sNext env cs) QS = QS (.nx env cs) := by simp [sNext]
@[simp] theorem got_sSeq {a b : S} : got (sSeq a b env cs) QS = got (a env cs) (seqK b QS) := by
  unfold sSeq
  match a env cs with
  | none => simp
  | some (.nx env cs) => simp
  | some (.rt d cs) => simp
  | some (.bk env cs) => simp
  | some (.ct env cs) => simp
  | some (.x c env cs) => simp
@[simp] theorem got_sSet {i e} : got (sSet i e env cs) QS = got (e env cs) (kontS env (fun d cs => some (.nx (env.set i (some d)) cs)) QS) := by simp [sSet]
@[simp] theorem got_sAsg {g e} : got (sAsg g e env cs) QS = got (e env cs) (kontS env (fun d cs => (g d env cs).map fun env' => .nx env' cs) QS) := by simp [sAsg]
@[simp] theorem got_sPar {i j a b} : got (sPar i j a b env cs) QS = got (a env cs) (kontS env (fun x cs => thn env (b env cs) fun y cs => some (.nx ((env.set i (some x)).set j (some y)) cs)) QS) := by simp [sPar]
@[simp] theorem got_sAug {i op e} : got (sAug i op e env cs) QS = got (env[i]?.bind id) fun x => got (e env cs) (kontS env (fun y cs => (op cs x y).map fun z => .nx (env.set i (some z)) cs) QS) := by
  unfold sAug
  match env[i]? with
  | none => simp
  | some none => simp
  | some (some d) => simp
@[simp] theorem got_sExpr {e} : got (sExpr e env cs) QS = got (e env cs) (kontS env (fun _ cs => some (.nx env cs)) QS) := by simp [sExpr]
@[simp] theorem got_sRet {e} : got (sRet e env cs) QS = got (e env cs) (kontS env (fun d cs => some (.rt d cs)) QS) := by simp [sRet]
@[simp] theorem got_sRetN : got (sRetN env cs) QS = QS (.rt .non cs) := by simp [sRetN]
@[simp] theorem got_sRaise {c} : got (sRaise c env cs) QS = QS (.x c env cs) := by simp [sRaise]
@[simp] theorem got_sBreak : got (sBreak env cs) QS = QS (.bk env cs) := by simp [sBreak]
@[simp] theorem got_sCont : got (sCont env cs) QS = QS (.ct env cs) := by simp [sCont]
@[simp] theorem got_sPut {op o i e} : got (sPut op o i e env cs) QS = got (e env cs) (kontS env (fun v cs => thn env (o env cs) fun x cs => thn env (i env cs) fun y cs => (op cs x y v).map fun cs' => .nx env cs') QS) := by simp [sPut]
@[simp] theorem got_sFor {i g b} : got (sFor i g b env cs) QS = got (i env cs) (kontS env (fun it cs => forL g b it.chk it.items env cs) QS) := by simp [sFor]
@[simp] theorem gN_def {i d} : gN i d env cs = some (env.set i (some d)) := rfl
@[simp] theorem gT_tup {gs ds} : gT gs (.tup ds) env cs = gAll gs ds env cs := rfl
@[simp] theorem gAll_nil : gAll [] [] env cs = some env := rfl
@[simp] theorem gAll_cons {g gs d ds} : gAll (g :: gs) (d :: ds) env cs = (g d env cs).bind fun env' => gAll gs ds env' cs := rfl
@[simp] theorem got_call {f l} : got (call f l env cs) Q = got (l env cs) (kont f Q) := by simp [call]
def fnK (Q : R D → Prop) : O → Prop
  | .rt d cs => Q (.v d cs)
  | .nx _ cs => Q (.v .non cs)
  | .x c _ cs => Q (.x c cs)
  | _ => False
@[simp] theorem fnK_rt {d} : fnK Q (.rt d cs) = Q (.v d cs) := rfl
@[simp] theorem fnK_nx : fnK Q (.nx env cs) = Q (.v .non cs) := rfl
@[simp] theorem fnK_x {c} : fnK Q (.x c env cs) = Q (.x c cs) := rfl
theorem got_fn {ps n : Nat} {b : S} {xs : List D} (h : xs.length = ps) (k : got (b (xs.map some ++ List.replicate (n - ps) none) cs) (fnK Q)) : got (fn ps n b xs cs) Q := by
  unfold fn
  rw [if_pos h]
  obtain ⟨o, e, q⟩ := k
  rw [e]
  match o with
  | .rt d cs => simpa using q
  | .nx _ cs => simpa using q
  | .x c _ cs => simpa using q
  | .bk _ _ => exact q.elim
  | .ct _ _ => exact q.elim
end
section
variable {g : G} {b : S} {chk : Cs → Bool} {Q : O → Prop}
def turnK (I : Env → Cs → Prop) (Q : O → Prop) : O → Prop
  | .nx env cs => I env cs
  | .ct env cs => I env cs
  | .bk env cs => Q (.nx env cs)
  | o => Q o
@[simp] theorem turnK_nx {I env cs} : turnK I Q (.nx env cs) = I env cs := rfl
@[simp] theorem turnK_ct {I env cs} : turnK I Q (.ct env cs) = I env cs := rfl
@[simp] theorem turnK_bk {I env cs} : turnK I Q (.bk env cs) = Q (.nx env cs) := rfl
@[simp] theorem turnK_rt {I d cs} : turnK I Q (.rt d cs) = Q (.rt d cs) := rfl
@[simp] theorem turnK_x {I c env cs} : turnK I Q (.x c env cs) = Q (.x c env cs) := rfl
theorem got_forL (I : Nat → Env → Cs → Prop) (items : List D)
    (hc : ∀ i env cs, I i env cs → i ≤ items.length → chk cs = true)
    (step : ∀ i x env cs, items[i]? = some x → I i env cs → got (g x env cs) fun env1 => got (b env1 cs) (turnK (I (i + 1)) Q))
    (fin : ∀ env cs, I items.length env cs → Q (.nx env cs)) :
    ∀ (k : Nat) (r : List D), items.drop k = r → k ≤ items.length → ∀ env cs, I k env cs → got (forL g b chk r env cs) Q
  | k, [], e, hk, env, cs, h => by
    have : items.length ≤ k := by
      have := congrArg List.length e
      simp at this
      omega
    have : k = items.length := by omega
    subst this
    simp only [forL, hc _ _ _ h (Nat.le_refl _), if_true, got_some]
    exact fin _ _ h
  | k, x :: r, e, hk, env, cs, h => by
    have hx : items[k]? = some x := by
      have := congrArg (·[0]?) e
      simpa using this
    have hlt : k < items.length := (List.getElem?_eq_some_iff.mp hx).1
    have er : items.drop (k + 1) = r := by
      rw [← List.drop_drop, e]
      rfl
    simp only [forL, hc _ _ _ h hk, if_true]
    obtain ⟨env1, e1, h1⟩ := step k x env cs hx h
    rw [e1]
    dsimp only
    obtain ⟨o, eo, ho⟩ := h1
    rw [eo]
    match o with
    | .nx env' cs' => exact got_forL I items hc step fin (k + 1) r er (by omega) _ _ ho
    | .ct env' cs' => exact got_forL I items hc step fin (k + 1) r er (by omega) _ _ ho
    | .bk env' cs' => simpa using ho
    | .rt d cs' => simpa using ho
    | .x c env' cs' => simpa using ho
theorem got_for (I : Nat → Env → Cs → Prop) {items : List D} {env : Env} {cs : Cs} (h0 : I 0 env cs)
    (hc : ∀ i env cs, I i env cs → i ≤ items.length → chk cs = true)
    (step : ∀ i x env cs, items[i]? = some x → I i env cs → got (g x env cs) fun env1 => got (b env1 cs) (turnK (I (i + 1)) Q))
    (fin : ∀ env cs, I items.length env cs → Q (.nx env cs)) : got (forL g b chk items env cs) Q :=
  got_forL I items hc step fin 0 items rfl (Nat.zero_le _) env cs h0
theorem got_whileL {t : E} (I : Nat → Env → Cs → Prop)
    (step : ∀ n env cs, I n env cs → got (t env cs) (testK (fun c cs => Q (.x c env cs)) (fun cs => got (b env cs) (turnK (fun env cs => ∃ m, m < n ∧ I m env cs) Q)) (fun cs => Q (.nx env cs)))) :
    ∀ (f n : Nat) (env : Env) (cs : Cs), n < f → I n env cs → got (whileL t b f env cs) Q
  | 0, n, env, cs, h, _ => absurd h (Nat.not_lt_zero _)
  | f + 1, n, env, cs, h, hI => by
    have s := step n env cs hI
    simp only [whileL, got_thn]
    refine s.mono fun r q => ?_
    match r with
    | .x c cs' => simpa using q
    | .v (.bl true) cs' =>
      simp only [testK_bl, if_true] at q
      simp only [kontS_v]
      obtain ⟨o, eo, ho⟩ := q
      rw [eo]
      match o with
      | .nx env' cs' =>
        obtain ⟨m, hm, hI'⟩ := ho
        exact got_whileL I step f m _ _ (by omega) hI'
      | .ct env' cs' =>
        obtain ⟨m, hm, hI'⟩ := ho
        exact got_whileL I step f m _ _ (by omega) hI'
      | .bk env' cs' => simpa using ho
      | .rt d cs' => simpa using ho
      | .x c env' cs' => simpa using ho
    | .v (.bl false) cs' => simpa using q
    | .v .non cs => exact q.elim
    | .v (.int _) cs => exact q.elim
    | .v (.str _) cs => exact q.elim
    | .v (.tup _) cs => exact q.elim
    | .v (.lst _) cs => exact q.elim
    | .v (.dct _ _) cs => exact q.elim
    | .v (.obj _ _) cs => exact q.elim
    | .v (.cell _) cs => exact q.elim
    | .v (.fro _) cs => exact q.elim
theorem got_while {t : E} (I : Nat → Env → Cs → Prop) (n : Nat) {env : Env} {cs : Cs} (hn : n < FUEL) (h0 : I n env cs)
    (step : ∀ n env cs, I n env cs → got (t env cs) (testK (fun c cs => Q (.x c env cs)) (fun cs => got (b env cs) (turnK (fun env cs => ∃ m, m < n ∧ I m env cs) Q)) (fun cs => Q (.nx env cs)))) : got (sWhile t b env cs) Q :=
  got_whileL I step FUEL n env cs hn h0
theorem got_lc {env : Env} {t e : E} {QL : R (List D) → Prop} (I : Nat → List D → Cs → Prop) {items : List D} {cs : Cs} (h0 : I 0 [] cs)
    (hc : ∀ i acc cs, I i acc cs → i ≤ items.length → chk cs = true)
    (step : ∀ i x acc cs, items[i]? = some x → I i acc cs → got (g x env cs) fun env1 => got (t env1 cs) (testK (fun _ _ => False) (fun cs => got (e env1 cs) fun r => ∃ y cs', r = .v y cs' ∧ acc.length < SIZE ∧ I (i + 1) (acc ++ [y]) cs') (fun cs => I (i + 1) acc cs)))
    (fin : ∀ acc cs, I items.length acc cs → QL (.v acc cs)) : got (lcLoop env g t e chk items [] cs) QL := by
  suffices H : ∀ (r : List D) (k : Nat), items.drop k = r → k ≤ items.length → ∀ acc cs, I k acc cs → got (lcLoop env g t e chk r acc cs) QL from H items 0 rfl (Nat.zero_le _) [] cs h0
  intro r
  induction r with
  | nil =>
    intro k ek hk acc cs h
    have : items.length ≤ k := by
      have := congrArg List.length ek
      simp at this
      omega
    have : k = items.length := by omega
    subst this
    simp only [lcLoop, hc _ _ _ h (Nat.le_refl _), if_true, got_some]
    exact fin _ _ h
  | cons x r ih =>
    intro k ek hk acc cs h
    have hx : items[k]? = some x := by
      have := congrArg (·[0]?) ek
      simpa using this
    have hlt : k < items.length := (List.getElem?_eq_some_iff.mp hx).1
    have er : items.drop (k + 1) = r := by
      rw [← List.drop_drop, ek]
      rfl
    simp only [lcLoop, hc _ _ _ h hk, if_true]
    obtain ⟨env1, e1, r1, et, h1⟩ := step k x acc cs hx h
    rw [e1]
    dsimp only
    rw [et]
    match r1 with
    | .x c cs' => exact h1.elim
    | .v (.bl true) cs' =>
      simp only [testK_bl, if_true] at h1
      obtain ⟨r2, e2, y, cs2, rfl, hs, hI⟩ := h1
      dsimp only
      rw [e2]
      dsimp only
      rw [if_pos hs]
      exact ih (k + 1) er (by omega) _ _ hI
    | .v (.bl false) cs' =>
      simp only [testK_bl, if_neg Bool.false_ne_true] at h1
      exact ih (k + 1) er (by omega) _ _ h1
    | .v .non cs => exact h1.elim
    | .v (.int _) cs => exact h1.elim
    | .v (.str _) cs => exact h1.elim
    | .v (.tup _) cs => exact h1.elim
    | .v (.lst _) cs => exact h1.elim
    | .v (.dct _ _) cs => exact h1.elim
    | .v (.obj _ _) cs => exact h1.elim
    | .v (.cell _) cs => exact h1.elim
    | .v (.fro _) cs => exact h1.elim
end
end Mi
end
section
set_option linter.all false
namespace Mi
open PySem
section
variable {cs : Cs} {i j : Int} {n k : Nat} {xs ys : List D} {d e : D}
@[simp] theorem oAdd_i : oAdd cs (.int i) (.int j) = some (.int (i + j)) := rfl
@[simp] theorem oSub_i : oSub cs (.int i) (.int j) = some (.int (i - j)) := rfl
@[simp] theorem oMul_i : oMul cs (.int i) (.int j) = if i.natAbs.log2 + j.natAbs.log2 < 1000000 then some (.int (i * j)) else none := rfl
@[simp] theorem oDiv_i : oDiv cs (.int i) (.int j) = if 0 < j ∧ j.natAbs.log2 < 9000 then some (.int (i / j)) else none := rfl
@[simp] theorem oMod_i : oMod cs (.int i) (.int j) = if 0 < j then some (.int (i % j)) else none := rfl
@[simp] theorem oPow_i : oPow cs (.int i) (.int j) = if 0 ≤ j ∧ j ≤ 1000000 ∧ i.natAbs < 2 ^ 64 then some (.int (i ^ j.toNat)) else none := rfl
@[simp] theorem oNeg_i : oNeg cs (.int i) = some (.int (-i)) := rfl
@[simp] theorem oAbs_i : oAbs cs (.int i) = some (.int (if i < 0 then -i else i)) := rfl
@[simp] theorem oInt_i : oInt cs (.int i) = some (.int i) := rfl
@[simp] theorem oInt_b {b} : oInt cs (.bl b) = some (.int (if b then 1 else 0)) := rfl
@[simp] theorem oLt_i : oLt cs (.int i) (.int j) = some (.bl (decide (i < j))) := rfl
@[simp] theorem oLe_i : oLe cs (.int i) (.int j) = some (.bl (decide (i ≤ j))) := rfl
@[simp] theorem oGt_i : oGt cs (.int i) (.int j) = some (.bl (decide (j < i))) := rfl
@[simp] theorem oGe_i : oGe cs (.int i) (.int j) = some (.bl (decide (j ≤ i))) := rfl
@[simp] theorem oMin2_i : oMin2 cs (.int i) (.int j) = some (.int (if j < i then j else i)) := rfl
@[simp] theorem oMax2_i : oMax2 cs (.int i) (.int j) = some (.int (if j > i then j else i)) := rfl
@[simp] theorem oNot_b {b} : oNot cs (.bl b) = some (.bl (!b)) := rfl
@[simp] theorem oEqS_i : oEqS cs (.int i) (.int j) = some (.bl (decide (i = j))) := by
  have : (D.int i = D.int j) = (i = j) := by simp
  simp [oEqS, scal]
@[simp] theorem oNeS_i : oNeS cs (.int i) (.int j) = some (.bl (!decide (i = j))) := by simp [oNeS, scal]
@[simp] theorem oIx_i : oIx cs d (.int i) = (seqOf cs d).bind fun xs => atI xs i := rfl
@[simp] theorem oLen_d : oLen cs d = (seqOf cs d).map fun xs => .int xs.length := rfl
@[simp] theorem oTuple_d : oTuple cs d = (seqOf cs d).map .tup := rfl
@[simp] theorem seqOf_t : seqOf cs (.tup xs) = some xs := rfl
@[simp] theorem seqOf_l : seqOf cs (.lst xs) = some xs := rfl
@[simp] theorem seqOf_f : seqOf cs (.fro xs) = some xs := rfl
def lstC : Cell → Option (List D)
  | .lst xs => some xs
  | _ => none
def dctC : Cell → Option (List D × List D)
  | .dct ks vs => some (ks, vs)
  | _ => none
@[simp] theorem lstC_l : lstC (.lst xs) = some xs := rfl
@[simp] theorem dctC_d : dctC (.dct xs ys) = some (xs, ys) := rfl
@[simp] theorem lstOf_l : lstOf cs (.lst xs) = some xs := rfl
@[simp] theorem lstOf_f : lstOf cs (.fro xs) = some xs := rfl
@[simp] theorem lstOf_c : lstOf cs (.cell k) = cs[k]?.bind lstC := by
  simp only [lstOf]
  rcases cs[k]? with _ | ⟨_ | _ | _⟩ <;> rfl
@[simp] theorem seqOf_c : seqOf cs (.cell k) = cs[k]?.bind lstC := by
  show lstOf cs (.cell k) = _
  exact lstOf_c
@[simp] theorem ownOf_l : ownOf cs (.lst xs) = some xs := rfl
@[simp] theorem ownOf_c : ownOf cs (.cell k) = cs[k]?.bind lstC := by
  simp only [ownOf]
  rcases cs[k]? with _ | ⟨_ | _ | _⟩ <;> rfl
@[simp] theorem dctOf_c : dctOf cs (.cell k) = cs[k]?.bind dctC := by
  simp only [dctOf]
  rcases cs[k]? with _ | ⟨_ | _ | _⟩ <;> rfl
@[simp] theorem cellD_c : cellD cs (.cell k) = (cs[k]?.bind dctC).map fun p => (k, p.1, p.2) := by
  simp only [cellD]
  rcases cs[k]? with _ | ⟨_ | _ | _⟩ <;> rfl
@[simp] theorem cellL_c : cellL cs (.cell k) = (cs[k]?.bind lstC).map fun p => (k, p) := by
  simp only [cellL]
  rcases cs[k]? with _ | ⟨_ | _ | _⟩ <;> rfl
@[simp] theorem isL_c : isL cs (.cell k) = (cs[k]?.bind lstC).isSome := by simp [isL]
theorem atI_nat {α : Type} {xs : List α} {j : Nat} {x : α} (h : xs[j]? = some x) : atI xs (j : Int) = some x := by
  have := (List.getElem?_eq_some_iff.mp h).1
  unfold atI ixN
  rw [if_pos (by omega), if_pos (by omega)]
  simpa using h
theorem ixN_nat {n j : Nat} (h : j < n) : ixN n (j : Int) = some j := by
  unfold ixN
  rw [if_pos (by omega), if_pos (by omega)]
  simp
@[simp] theorem rngOf_i : rngOf (.int i) = if 0 ≤ i ∧ i ≤ 16777216 then some (rng 0 i) else none := rfl
@[simp] theorem tupOf_t : tupOf (.tup xs) = some xs := rfl
@[simp] theorem partOf_i : partOf (some (.int i)) = some (some i) := rfl
@[simp] theorem isKey_i : isKey (.int i) = true := rfl
@[simp] theorem isKey_s {s} : isKey (.str s) = true := rfl
@[simp] theorem oDGet_i : oDGet cs d (.int i) = (dctOf cs d).bind fun p => find (.int i) p.1 p.2 := by simp [oDGet]
@[simp] theorem oDIn_i : oDIn cs (.int i) d = (dctOf cs d).map fun p => .bl (find (.int i) p.1 p.2).isSome := by simp [oDIn]
@[simp] theorem oDNotIn_i : oDNotIn cs (.int i) d = (dctOf cs d).map fun p => .bl (!(find (.int i) p.1 p.2).isSome) := by simp [oDNotIn]
@[simp] theorem putD_i : putD cs d (.int i) e = (cellD cs d).bind fun p => if p.2.1.length < SIZE then some (cs.set p.1 (.dct (put (.int i) e p.2.1 p.2.2).1 (put (.int i) e p.2.1 p.2.2).2)) else none := by
  unfold putD
  cases cellD cs d with
  | none => rfl
  | some p => simp
@[simp] theorem putL_i : putL cs d (.int i) e = (cellL cs d).bind fun p => (ixN p.2.length i).map fun j => cs.set p.1 (.lst (p.2.set j e)) := by
  unfold putL
  cases cellL cs d with
  | none => rfl
  | some p => rfl
@[simp] theorem oAppend_d : oAppend cs d [e] = (cellL cs d).bind fun p => if p.2.length < SIZE then some (.non, cs.set p.1 (.lst (p.2 ++ [e]))) else none := by
  unfold oAppend
  cases cellL cs d with
  | none => rfl
  | some p => rfl
@[simp] theorem oExtend_d : oExtend cs d [e] = (cellL cs d).bind fun p => (ownOf cs e).bind fun zs => if p.2.length + zs.length ≤ SIZE then some (.non, cs.set p.1 (.lst (p.2 ++ zs))) else none := by
  simp only [oExtend]
  rcases cellL cs d with _ | p
  · rfl
  · show (match ownOf cs e with | some zs => if p.2.length + zs.length ≤ SIZE then some (D.non, cs.set p.1 (.lst (p.2 ++ zs))) else none | none => none) = (ownOf cs e).bind fun zs => _
    rcases ownOf cs e with _ | zs <;> rfl
@[simp] theorem oInsert_d : oInsert cs d [.int i, e] = (cellL cs d).bind fun p => if 0 ≤ i ∧ i.toNat ≤ p.2.length ∧ p.2.length < SIZE then some (.non, cs.set p.1 (.lst (p.2.take i.toNat ++ e :: p.2.drop i.toNat))) else none := by
  unfold oInsert
  cases cellL cs d with
  | none => rfl
  | some p => rfl
@[simp] theorem SIZE_eq : SIZE = 16777216 := rfl
@[simp] theorem oAll_d : oAll cs d = ((lstOf cs d).bind boolsOf).map fun bs => .bl (bs.all id) := rfl
@[simp] theorem oAny_d : oAny cs d = ((lstOf cs d).bind boolsOf).map fun bs => .bl (bs.any id) := rfl
theorem stays_pure (h : ∀ k, d ≠ .cell k) {cs' : Cs} : stays cs d cs' = true := by
  cases d <;> simp_all [stays]
@[simp] theorem stays_l {cs' : Cs} : stays cs (.lst xs) cs' = true := rfl
@[simp] theorem stays_f {cs' : Cs} : stays cs (.fro xs) cs' = true := rfl
end

mutual
def D.pure : D → Bool
  | .tup xs => D.pures xs
  | .lst xs => D.pures xs
  | .fro xs => D.pures xs
  | .dct ks vs => D.pures ks && D.pures vs
  | .obj _ fs => D.pures fs
  | .cell _ => false
  | _ => true
def D.pures : List D → Bool
  | [] => true
  | x :: xs => D.pure x && D.pures xs
end
mutual
theorem D.subst_pure (g : Nat → Option D) : ∀ d : D, d.pure = true → D.subst g d = some d
  | .non, _ => rfl
  | .bl _, _ => rfl
  | .int _, _ => rfl
  | .str _, _ => rfl
  | .tup xs, h => by
    simp only [D.subst, D.substs_pure g xs h, Option.map_some]
  | .lst xs, h => by
    simp only [D.subst, D.substs_pure g xs h, Option.map_some]
  | .fro xs, h => by
    simp only [D.subst, D.substs_pure g xs h, Option.map_some]
  | .dct ks vs, h => by
    simp only [D.pure, Bool.and_eq_true] at h
    simp only [D.subst, D.substs_pure g ks h.1, D.substs_pure g vs h.2, Option.map_some, Option.bind_some]
  | .obj _ fs, h => by
    simp only [D.subst, D.substs_pure g fs h, Option.map_some]
theorem D.substs_pure (g : Nat → Option D) : ∀ ds : List D, D.pures ds = true → D.substs g ds = some ds
  | [], _ => rfl
  | x :: xs, h => by
    simp only [D.pures, Bool.and_eq_true] at h
    simp only [D.substs, D.subst_pure g x h.1, D.substs_pure g xs h.2, Option.map_some, Option.bind_some]
end
mutual
theorem D.under_pure (n : Nat) : ∀ d : D, d.pure = true → d.under n = true
  | .non, _ => rfl
  | .bl _, _ => rfl
  | .int _, _ => rfl
  | .str _, _ => rfl
  | .tup xs, h => D.unders_pure n xs h
  | .lst xs, h => D.unders_pure n xs h
  | .fro xs, h => D.unders_pure n xs h
  | .dct ks vs, h => by
    simp only [D.pure, Bool.and_eq_true] at h
    simp only [D.under, D.unders_pure n ks h.1, D.unders_pure n vs h.2, Bool.and_self]
  | .obj _ fs, h => D.unders_pure n fs h
theorem D.unders_pure (n : Nat) : ∀ ds : List D, D.pures ds = true → D.unders n ds = true
  | [], _ => rfl
  | x :: xs, h => by
    simp only [D.pures, Bool.and_eq_true] at h
    simp only [D.unders, D.under_pure n x h.1, D.unders_pure n xs h.2, Bool.and_self]
end
theorem D.pures_iff {xs : List D} : D.pures xs = true ↔ ∀ x ∈ xs, D.pure x = true := by
  induction xs with
  | nil => simp [D.pures]
  | cons x xs ih => simp [D.pures, ih]
theorem frozen_pure {n : Nat} {cs : Cs} {d : D} (h : d.pure = true) : frozen n cs d = some d := D.subst_pure _ d h
theorem look_cell {n : Nat} {cs : Cs} {f k : Nat} {xs : List D} (hk : n ≤ k) (e : cs[k]? = some (.lst xs)) (h : D.pures xs = true) : look n cs (f + 1) k = some (.lst xs) := by
  simp only [look, if_neg (Nat.not_lt.mpr hk), e, Option.bind_some, Cell.subst, D.substs_pure _ xs h, Option.map_some]
theorem frozen_cell {n : Nat} {cs : Cs} {k : Nat} {xs : List D} (hk : n ≤ k) (e : cs[k]? = some (.lst xs)) (h : D.pures xs = true) : frozen n cs (.cell k) = some (.lst xs) := by
  show look n cs (7 + 1) k = _
  exact look_cell hk e h
theorem eqCell_rfl (c : Option Cell) : eqCell c c = true := by
  match c with
  | none => rfl
  | some (.lst xs) => simp [eqCell, D.beqs_rfl]
  | some (.dct ks vs) => simp [eqCell, D.beqs_rfl]
  | some (.obj c fs) => simp [eqCell, D.beqs_rfl]
theorem popOk_of {n : Nat} {cs cs' : Cs} (h : ∀ k, k < n → cs'[k]? = cs[k]? ∨ ∃ c, cs'[k]? = some c ∧ c.under n = true) : popOk n cs cs' = true := by
  unfold popOk
  rw [List.all_eq_true]
  intro k hk
  rcases h k (List.mem_range.mp hk) with h | ⟨c, h, u⟩
  · rw [h, eqCell_rfl]
    rfl
  · rw [h]
    simp [okBelow, u]
theorem got_popped {f : Fn} {xs : List D} {cs : Cs} {Q : R D → Prop} (h : got (f xs cs) fun r => ∃ d own d', r = .v d (cs ++ own) ∧ frozen cs.length (cs ++ own) d = some d' ∧ Q (.v d' cs)) : got (popped f xs cs) Q := by
  obtain ⟨r, e, d, own, d', rfl, hf, q⟩ := h
  have p : popOk cs.length cs (cs ++ own) = true := popOk_of fun k hk => .inl (List.getElem?_append_left hk)
  refine ⟨.v d' cs, ?_, q⟩
  unfold popped
  rw [e]
  dsimp only
  rw [if_pos p, hf, Option.map_some, List.take_left]
theorem got_popped1 {f : Fn} {xs : List D} {cs : Cs} {k : Nat} {Q : R D → Prop} (h : got (f xs cs) fun r => ∃ d own d' ys, r = .v d (cs.set k (.lst ys) ++ own) ∧ D.pures ys = true ∧ frozen cs.length (cs.set k (.lst ys) ++ own) d = some d' ∧ Q (.v d' (cs.set k (.lst ys)))) : got (popped f xs cs) Q := by
  obtain ⟨r, e, d, own, d', ys, rfl, hp, hf, q⟩ := h
  have hl : (cs.set k (.lst ys)).length = cs.length := List.length_set
  have p : popOk cs.length cs (cs.set k (.lst ys) ++ own) = true := popOk_of fun j hj => by
    rw [List.getElem?_append_left (by rw [hl]; exact hj)]
    by_cases hjk : k = j
    · subst hjk
      right
      exact ⟨.lst ys, List.getElem?_set_self hj, D.unders_pure _ _ hp⟩
    · left
      exact List.getElem?_set_ne hjk
  refine ⟨.v d' (cs.set k (.lst ys)), ?_, q⟩
  unfold popped
  rw [e]
  dsimp only
  rw [if_pos p, hf, Option.map_some]
  rw [show (cs.set k (Cell.lst ys) ++ own).take cs.length = cs.set k (.lst ys) from by rw [← hl]; exact List.take_left ..]

section
variable {g : G} {chk : Cs → Bool} {env : Env} {t e : E} {QL : R (List D) → Prop}
theorem got_lc_map (h : D → D) {items : List D} {cs : Cs} (hc : chk cs = true) (hs : items.length ≤ SIZE)
    (step : ∀ x ∈ items, got (g x env cs) fun env1 => got (t env1 cs) fun r => r = .v (.bl true) cs ∧ got (e env1 cs) fun r => r = .v (h x) cs)
    (fin : QL (.v (items.map h) cs)) : got (lcLoop env g t e chk items [] cs) QL := by
  refine got_lc (fun i acc cs' => cs' = cs ∧ acc = (items.take i).map h) ⟨rfl, rfl⟩ (fun i acc cs' hI _ => by rw [hI.1]; exact hc) (fun i x acc cs' hx hI => ?_) fun acc cs' hI => ?_
  · obtain ⟨rfl, rfl⟩ := hI
    have hi : i < items.length := (List.getElem?_eq_some_iff.mp hx).1
    refine (step x (List.mem_of_getElem? hx)).mono fun env1 h1 => h1.mono fun r hr => ?_
    obtain ⟨rfl, h2⟩ := hr
    simp only [testK_bl, if_true]
    refine h2.mono fun r hr => ⟨h x, cs', hr, ?_, rfl, ?_⟩
    · rw [List.length_map, List.length_take]
      omega
    · rw [List.take_add_one, hx, List.map_append]
      rfl
  · obtain ⟨rfl, rfl⟩ := hI
    rw [List.take_length]
    exact fin
theorem got_lc_filter (p : D → Bool) (h : D → D) {items : List D} {cs : Cs} (hc : chk cs = true) (hs : items.length ≤ SIZE)
    (step : ∀ x ∈ items, got (g x env cs) fun env1 => got (t env1 cs) fun r => r = .v (.bl (p x)) cs ∧ (p x = true → got (e env1 cs) fun r => r = .v (h x) cs))
    (fin : QL (.v ((items.filter p).map h) cs)) : got (lcLoop env g t e chk items [] cs) QL := by
  refine got_lc (fun i acc cs' => cs' = cs ∧ acc = ((items.take i).filter p).map h) ⟨rfl, rfl⟩ (fun i acc cs' hI _ => by rw [hI.1]; exact hc) (fun i x acc cs' hx hI => ?_) fun acc cs' hI => ?_
  · obtain ⟨rfl, rfl⟩ := hI
    have hi : i < items.length := (List.getElem?_eq_some_iff.mp hx).1
    refine (step x (List.mem_of_getElem? hx)).mono fun env1 h1 => h1.mono fun r hr => ?_
    obtain ⟨rfl, h2⟩ := hr
    rw [testK_bl]
    by_cases hp : p x = true
    · rw [if_pos hp]
      refine (h2 hp).mono fun r hr => ⟨h x, cs', hr, ?_, rfl, ?_⟩
      · rw [List.length_map]
        have := List.length_filter_le p (items.take i)
        rw [List.length_take] at this
        omega
      · rw [List.take_add_one, hx, List.filter_append, List.map_append]
        simp [hp]
    · rw [if_neg hp]
      refine ⟨rfl, ?_⟩
      rw [List.take_add_one, hx, List.filter_append]
      simp [hp]
  · obtain ⟨rfl, rfl⟩ := hI
    rw [List.take_length]
    exact fin
end
end Mi
end
section
set_option linter.all false
namespace Mi
open PySem
abbrev hnd (a s c : Int) : Cell := .lst [.int a, .int s, .int c]
def Hs (cs : Cs) (k t : Nat) (own cs' : Cs) : Prop := ∃ a s c : Int, cs' = cs.set k (hnd a s c) ++ own ∧ k < cs.length ∧ 0 ≤ a ∧ 0 ≤ s ∧ s < 2147483647 ∧ 0 ≤ c ∧ c ≤ t
section
variable {cs cs0 cs1 cs2 own own' : Cs} {k t t' : Nat}
theorem Hs.at_ (h : Hs cs k t own cs1) : ∃ a s c : Int, cs1[k]? = some (hnd a s c) ∧ k < cs1.length ∧ 0 ≤ a ∧ 0 ≤ s ∧ s < 2147483647 ∧ 0 ≤ c ∧ c ≤ t := by
  obtain ⟨a, s, c, rfl, hk, h⟩ := h
  refine ⟨a, s, c, ?_, ?_, h⟩
  · rw [List.getElem?_append_left (by rw [List.length_set]; exact hk), List.getElem?_set_self hk]
  · rw [List.length_append, List.length_set]
    omega
theorem Hs.refl (h : Hs cs k t own cs1) : Hs cs1 k t [] cs1 := by
  obtain ⟨a, s, c, e, hk, hi⟩ := h.at_
  refine ⟨a, s, c, ?_, hk, hi⟩
  rw [List.append_nil]
  refine (List.ext_getElem? fun j => ?_)
  by_cases hj : k = j
  · subst hj
    rw [List.getElem?_set_self hk, e]
  · rw [List.getElem?_set_ne hj]
theorem Hs.trans (h : Hs cs k t own cs1) (h2 : Hs cs1 k t' [] cs2) : Hs cs k t' own cs2 := by
  obtain ⟨a, s, c, rfl, hk, _⟩ := h
  obtain ⟨a', s', c', rfl, _, hi⟩ := h2
  refine ⟨a', s', c', ?_, hk, hi⟩
  rw [List.append_nil, List.set_append_left _ _ (by rw [List.length_set]; exact hk), List.set_set]
theorem Hs.mono (h : Hs cs k t own cs1) (l : t ≤ t') : Hs cs k t' own cs1 := by
  obtain ⟨a, s, c, e, hk, h1, h2, h3, h4, h5⟩ := h
  exact ⟨a, s, c, e, hk, h1, h2, h3, h4, by omega⟩
theorem Hs.len (h : Hs cs k t own cs1) : cs1.length = cs.length + own.length := by
  obtain ⟨a, s, c, rfl, _⟩ := h
  rw [List.length_append, List.length_set]
theorem Hs.own_at (h : Hs cs k t own cs1) (j : Nat) : cs1[cs.length + j]? = own[j]? := by
  obtain ⟨a, s, c, rfl, _⟩ := h
  rw [List.getElem?_append_right (by rw [List.length_set]; omega), List.length_set]
  congr 1
  omega
theorem Hs.push (h : Hs cs k t own cs1) (c : Cell) : Hs cs k t (own ++ [c]) (cs1 ++ [c]) := by
  obtain ⟨a, s, c', rfl, hi⟩ := h
  exact ⟨a, s, c', by rw [List.append_assoc], hi⟩
theorem Hs.put (h : Hs cs k t own cs1) (j : Nat) (c : Cell) : Hs cs k t (own.set j c) (cs1.set (cs.length + j) c) := by
  obtain ⟨a, s, c', rfl, hi⟩ := h
  refine ⟨a, s, c', ?_, hi⟩
  rw [List.set_append_right _ _ (by rw [List.length_set]; omega), List.length_set, Nat.add_sub_cancel_left]
theorem got_poppedH {f : Fn} {xs : List D} {Q : R D → Prop} (h : got (f xs cs) fun r => ∃ d own cs' d' , r = .v d cs' ∧ Hs cs k t own cs' ∧ frozen cs.length cs' d = some d' ∧ ∀ cs2, Hs cs k t [] cs2 → Q (.v d' cs2)) : got (popped f xs cs) Q := by
  refine got_popped1 (k := k) (h.mono fun r hr => ?_)
  obtain ⟨d, own, cs', d', rfl, ⟨a, s, c, rfl, hk, hi⟩, hf, q⟩ := hr
  refine ⟨d, own, d', [.int a, .int s, .int c], rfl, rfl, hf, q _ ⟨a, s, c, ?_, hk, hi⟩⟩
  rw [List.append_nil]
end
def h_take : S :=
    (sSeq (sIf (e2 oGt (e2 oIx (eVar 0) (eC (.int 0))) (eC (.int 0))) (sSeq (sSet 2 (e2 oMod (e2 oIx (eVar 0) (eC (.int 0))) (eVar 1)))
    (sSeq (sPut putL (eVar 0) (eC (.int 0)) (e2 oDiv (e2 oIx (eVar 0) (eC (.int 0))) (eVar 1)))
    (sRet (eVar 2)))) sNext)
    (sSeq (sPut putL (eVar 0) (eC (.int 2)) (e2 oAdd (e2 oIx (eVar 0) (eC (.int 2))) (eC (.int 1))))
    (sSeq (sPut putL (eVar 0) (eC (.int 1)) (e2 oMod (e2 oAdd (e2 oAdd (e2 oMul (e2 oIx (eVar 0) (eC (.int 1))) (eC (.int 39373))) (eC (.int 12345))) (e2 oMul (eC (.int 31)) (e2 oIx (eVar 0) (eC (.int 2))))) (eC (.int 2147483647))))
    (sRet (e2 oMod (e2 oDiv (e2 oMod (e2 oMul (e2 oIx (eVar 0) (eC (.int 1))) (e2 oAdd (e2 oMod (e2 oIx (eVar 0) (eC (.int 1))) (eC (.int 40009))) (eC (.int 3)))) (eC (.int 2147483629))) (eC (.int 64))) (eVar 1))))))
theorem set_at {cs : Cs} {k : Nat} {c0 : Cell} (e : cs[k]? = some c0) (c : Cell) : (cs.set k c)[k]? = some c := List.getElem?_set_self (List.getElem?_eq_some_iff.mp e).1
theorem log_lt {n : Nat} (h : n < 2 ^ 128) : n.log2 < 128 := by
  by_cases h0 : n = 0
  · subst h0
    decide
  · exact (Nat.log2_lt h0).mpr h
theorem log_lt_i {i : Int} (h0 : 0 ≤ i) (h : i < 2 ^ 128) : i.natAbs.log2 < 128 := log_lt (by omega)
@[simp] theorem atI_0 {α : Type} {x : α} {r : List α} : atI (x :: r) 0 = some x := by
  have := atI_nat (xs := x :: r) (j := 0) (x := x) rfl
  simpa using this
@[simp] theorem atI_1 {α : Type} {x y : α} {r : List α} : atI (x :: y :: r) 1 = some y := by
  have := atI_nat (xs := x :: y :: r) (j := 1) (x := y) rfl
  simpa using this
@[simp] theorem atI_2 {α : Type} {x y z : α} {r : List α} : atI (x :: y :: z :: r) 2 = some z := by
  have := atI_nat (xs := x :: y :: z :: r) (j := 2) (x := z) rfl
  simpa using this
@[simp] theorem ixN_0 {n : Nat} : ixN (n + 1) 0 = some 0 := by
  have := ixN_nat (n := n + 1) (j := 0) (by omega)
  simpa using this
@[simp] theorem ixN_1 {n : Nat} : ixN (n + 2) 1 = some 1 := by
  have := ixN_nat (n := n + 2) (j := 1) (by omega)
  simpa using this
@[simp] theorem ixN_2 {n : Nat} : ixN (n + 3) 2 = some 2 := by
  have := ixN_nat (n := n + 3) (j := 2) (by omega)
  simpa using this
theorem take_ok {cs cs0 own : Cs} {k t : Nat} {m : Int} (h : Hs cs0 k t own cs) (hm : 0 < m) (hm2 : m < 2 ^ 64) (ht : t < 2 ^ 64) :
    got (popped (fn 2 3 h_take) [.cell k, .int m] cs) fun r => ∃ (d : Nat) (cs2 : Cs), r = .v (.int d) cs2 ∧ (d : Int) < m ∧ Hs cs0 k (t + 1) own cs2 := by
  refine got_poppedH (k := k) (t := t + 1) (got_fn rfl ?_)
  obtain ⟨a, s, c, e, hk, h1, h2, h3, h4, h5⟩ := h.at_
  have R := h.refl
  have hl : m.natAbs.log2 < 9000 := Nat.lt_of_lt_of_le (log_lt_i (by omega) (by omega)) (by decide)
  by_cases ha : 0 < a
  · simp [h_take, e, set_at e, hm, hl, ha]
    refine ⟨_, [], _, ⟨rfl, rfl⟩, ⟨a / m, s, c, ?_, hk, Int.ediv_nonneg h1 (by omega), h2, h3, h4, by omega⟩, _, frozen_pure rfl, fun cs2 h2 => ⟨(a % m).toNat, cs2, ⟨?_, rfl⟩, ?_, h.trans h2⟩⟩
    · simp
    · rw [Int.toNat_of_nonneg (Int.emod_nonneg _ (by omega))]
    · rw [Int.toNat_of_nonneg (Int.emod_nonneg _ (by omega))]
      exact Int.emod_lt_of_pos _ hm
  · have hc : ((c + 1).natAbs.log2) < 128 := log_lt_i (by omega) (by omega)
    have hs : (s.natAbs.log2) < 128 := log_lt_i (by omega) (by omega)
    have c1 : (39373 : Int).natAbs.log2 < 128 := log_lt_i (by omega) (by omega)
    have c2 : (31 : Int).natAbs.log2 < 128 := log_lt_i (by omega) (by omega)
    generalize es : (s * 39373 + 12345 + 31 * (c + 1)) % 2147483647 = s'
    have s1 : 0 ≤ s' := by rw [← es]; exact Int.emod_nonneg _ (by omega)
    have s2 : s' < 2147483647 := by rw [← es]; exact Int.emod_lt_of_pos _ (by omega)
    have hs' : (s'.natAbs.log2) < 128 := log_lt_i (by omega) (by omega)
    have hs2 : ((s' % 40009 + 3).natAbs.log2) < 128 := log_lt_i (by omega) (by omega)
    simp [h_take, e, set_at e, hm, ha, es]
    have q1 : s.natAbs.log2 + Nat.log2 39373 < 1000000 := by
      have : Nat.log2 39373 < 128 := c1
      omega
    have q2 : Nat.log2 31 + (c + 1).natAbs.log2 < 1000000 := by
      have : Nat.log2 31 < 128 := c2
      omega
    have q3 : s'.natAbs.log2 + (s' % 40009 + 3).natAbs.log2 < 1000000 := by omega
    have q4 : Nat.log2 64 < 9000 := by decide
    refine ⟨q1, q2, q3, q4, _, [], _, ⟨rfl, rfl⟩, ⟨a, s', c + 1, ?_, hk, h1, s1, s2, by omega, by omega⟩, _, frozen_pure rfl, fun cs2 h2 => ⟨(s' * (s' % 40009 + 3) % 2147483629 / 64 % m).toNat, cs2, ⟨?_, rfl⟩, ?_, h.trans h2⟩⟩
    · simp
    · rw [Int.toNat_of_nonneg (Int.emod_nonneg _ (by omega))]
    · rw [Int.toNat_of_nonneg (Int.emod_nonneg _ (by omega))]
      exact Int.emod_lt_of_pos _ hm
abbrev di (n : Nat) : D := .int (n : Int)
abbrev dis (p : List Nat) : List D := p.map di
theorem rng_nat (n : Nat) : rng 0 (n : Int) = dis (List.range n) := by
  unfold rng
  rw [Int.sub_zero, Int.toNat_natCast]
  refine List.map_congr_left fun k _ => ?_
  rw [Int.zero_add]
theorem rng_at {n i : Nat} {x : D} (h : (rng 0 (n : Int))[i]? = some x) : i < n ∧ x = di i := by
  rw [rng_nat, List.getElem?_map] at h
  by_cases hi : i < n
  · rw [List.getElem?_range hi] at h
    exact ⟨hi, (Option.some.inj h).symm⟩
  · rw [List.getElem?_eq_none (by rw [List.length_range]; omega)] at h
    cases h
theorem rng_len (n : Nat) : (rng 0 (n : Int)).length = n := by rw [rng_nat, List.length_map, List.length_range]
theorem pures_dis (p : List Nat) : D.pures (dis p) = true := D.pures_iff.mpr fun x hx => by
  obtain ⟨n, _, rfl⟩ := List.mem_map.mp hx
  rfl
@[simp] theorem okR_nat {n : Nat} : (okR (n : Int) = true) = (n < 2 ^ 62) := by
  unfold okR
  simp
  omega
def h_turning : S :=
    (sSeq (sSet 2 (eLc (lDisp aNil)))
    (sSeq (sFor (iRange (eVar 1)) (gN 3) (sExpr (m1 isL oInsert (eVar 2) (aCons (call (popped (fn 2 3 h_take)) (aCons (eVar 0) (aCons (e2 oAdd (eVar 3) (eC (.int 1))) aNil))) (aCons (eVar 3) aNil)))))
    (sRet (e1 oTuple (eVar 2)))))
theorem turning_ok {cs cs0 own : Cs} {k t n : Nat} (h : Hs cs0 k t own cs) (hn : n < 1000000) (ht : t + n < 2 ^ 64) :
    got (popped (fn 2 4 h_turning) [.cell k, .int n] cs) fun r => ∃ (p : List Nat) (cs2 : Cs), r = .v (.tup (dis p)) cs2 ∧ p.Perm (List.range n) ∧ Hs cs0 k (t + n) own cs2 := by
  refine got_poppedH (k := k) (t := t + n) (got_fn rfl ?_)
  have P := h.refl.push (.lst [])
  simp [h_turning]
  refine ⟨by omega, got_for (fun i env cs' => ∃ (p : List Nat) (x : Option D), p.Perm (List.range i) ∧ env = [some (.cell k), some (.int n), some (.cell cs.length), x] ∧ Hs cs k (t + i) [.lst (dis p)] cs')
    ⟨[], none, List.Perm.refl _, rfl, P⟩ (fun _ _ _ _ _ => rfl) (fun i x env cs' hx hI => ?_) fun env cs' hI => ?_⟩
  · obtain ⟨p, y, hp, rfl, hs⟩ := hI
    obtain ⟨hi, rfl⟩ := rng_at hx
    have o := hs.own_at 0
    rw [Nat.add_zero] at o
    have o2 : cs'[cs.length]? = some (.lst (dis p)) := o
    simp [o2]
    refine (take_ok hs (m := (i : Int) + 1) (by omega) (by omega) (by omega)).mono fun r hr => ?_
    obtain ⟨d, cs2, rfl, hd, hs2⟩ := hr
    have o3 := hs2.own_at 0
    rw [Nat.add_zero] at o3
    have o4 : cs2[cs.length]? = some (.lst (dis p)) := o3
    have pl : p.length = i := by rw [hp.length_eq, List.length_range]
    simp [o4, pl]
    have w := hs2.put 0 (.lst (dis (p.take d ++ i :: p.drop d)))
    refine ⟨by omega, p.take d ++ i :: p.drop d, ?_, ?_⟩
    · refine (List.perm_middle).trans ?_
      rw [List.take_append_drop, List.range_succ]
      exact (hp.cons i).trans (List.perm_append_comm (l₁ := [i]))
    · simpa [Nat.add_assoc] using w
  · obtain ⟨p, y, hp, rfl, hs⟩ := hI
    rw [rng_len] at hp hs
    have o := hs.own_at 0
    rw [Nat.add_zero] at o
    have o2 : cs'[cs.length]? = some (.lst (dis p)) := o
    simp [o2]
    refine ⟨_, _, _, ⟨rfl, rfl⟩, hs, _, frozen_pure ?_, fun cs2 h2 => ⟨p, cs2, ⟨rfl, rfl⟩, hp, h.trans h2⟩⟩
    exact pures_dis p
def h_pick : S :=
    (sRet (e2 oIx (eVar 1) (call (popped (fn 2 3 h_take)) (aCons (eVar 0) (aCons (e1 oLen (eVar 1)) aNil)))))
theorem pick_ok {cs cs0 own : Cs} {k t : Nat} {xs : List D} (h : Hs cs0 k t own cs) (hx : xs ≠ []) (hp : D.pures xs = true) (hl : xs.length < 1000000) (ht : t < 2 ^ 64) :
    got (popped (fn 2 2 h_pick) [.cell k, .lst xs] cs) fun r => ∃ (d : D) (cs2 : Cs), r = .v d cs2 ∧ d ∈ xs ∧ Hs cs0 k (t + 1) own cs2 := by
  refine got_poppedH (k := k) (t := t + 1) (got_fn rfl ?_)
  have h0 : 0 < xs.length := List.length_pos_iff.mpr hx
  simp [h_pick]
  refine (take_ok h.refl (m := (xs.length : Int)) (by omega) (by omega) ht).mono fun r hr => ?_
  obtain ⟨d, cs2, rfl, hd, hs2⟩ := hr
  have hd2 : d < xs.length := by omega
  simp [atI_nat (List.getElem?_eq_getElem hd2)]
  refine ⟨_, _, _, ⟨rfl, rfl⟩, hs2, _, frozen_pure (D.pures_iff.mp hp _ (List.getElem_mem hd2)), fun cs3 h3 => ⟨_, cs3, ⟨rfl, rfl⟩, List.getElem_mem hd2, h.trans h3⟩⟩
end Mi
end
section
set_option linter.all false
namespace Mi
open PySem
section
variable {α : Type} [DecidableEq α]
theorem nodup_sub : ∀ {l l2 : List α}, l.Nodup → (∀ x ∈ l, x ∈ l2) → l.length ≤ l2.length
  | [], _, _, _ => Nat.zero_le _
  | a :: t, l2, h, s => by
    have ha : a ∈ l2 := s a List.mem_cons_self
    have h' := List.nodup_cons.mp h
    have := nodup_sub (l := t) (l2 := l2.erase a) h'.2 fun x hx => (List.mem_erase_of_ne fun e => h'.1 (by rw [← e]; exact hx)).mpr (s x (List.mem_cons_of_mem _ hx))
    rw [List.length_erase_of_mem ha] at this
    have : 0 < l2.length := List.length_pos_of_mem ha
    simp only [List.length_cons]
    omega
theorem nodup_sup {l l2 : List α} (h : l.Nodup) (s : ∀ x ∈ l, x ∈ l2) (e : l2.length ≤ l.length) : ∀ x ∈ l2, x ∈ l := fun x hx => by
  by_cases hl : x ∈ l
  · exact hl
  · have := nodup_sub (l := x :: l) (l2 := l2) (List.nodup_cons.mpr ⟨hl, h⟩) fun y hy => by
      rcases List.mem_cons.mp hy with rfl | hy
      · exact hx
      · exact s y hy
    simp only [List.length_cons] at this
    omega
end
theorem nodup_lt {l : List Nat} {n : Nat} (h : l.Nodup) (s : ∀ x ∈ l, x < n) : l.length ≤ n := by
  have := nodup_sub (l2 := List.range n) h fun x hx => List.mem_range.mpr (s x hx)
  rwa [List.length_range] at this
theorem rise_eq : ∀ {l l2 : List Nat}, l.Pairwise (· < ·) → l2.Pairwise (· < ·) → (∀ x, x ∈ l ↔ x ∈ l2) → l = l2
  | [], [], _, _, _ => rfl
  | [], b :: _, _, _, h => absurd ((h b).mpr List.mem_cons_self) (List.not_mem_nil)
  | a :: _, [], _, _, h => absurd ((h a).mp List.mem_cons_self) (List.not_mem_nil)
  | a :: t, b :: u, p, q, h => by
    have p' := List.pairwise_cons.mp p
    have q' := List.pairwise_cons.mp q
    have e : a = b := by
      rcases List.mem_cons.mp ((h a).mp List.mem_cons_self) with e | e
      · exact e
      · rcases List.mem_cons.mp ((h b).mpr List.mem_cons_self) with e2 | e2
        · exact e2.symm
        · have := q'.1 a e
          have := p'.1 b e2
          omega
    subst e
    rw [rise_eq p'.2 q'.2 fun x => ⟨fun hx => ?_, fun hx => ?_⟩]
    · rcases List.mem_cons.mp ((h x).mp (List.mem_cons_of_mem _ hx)) with e | e
      · subst e
        exact absurd (p'.1 x hx) (Nat.lt_irrefl _)
      · exact e
    · rcases List.mem_cons.mp ((h x).mpr (List.mem_cons_of_mem _ hx)) with e | e
      · subst e
        exact absurd (q'.1 x hx) (Nat.lt_irrefl _)
      · exact e
theorem rise_range (n : Nat) : (List.range n).Pairwise (· < ·) := List.pairwise_lt_range
theorem rise_filter {l : List Nat} (h : l.Pairwise (· < ·)) (p : Nat → Bool) : (l.filter p).Pairwise (· < ·) := h.filter p
abbrev srt (l : List Nat) : List Nat := l.mergeSort fun a b => decide (a ≤ b)
theorem srt_perm (l : List Nat) : (srt l).Perm l := List.mergeSort_perm l _
theorem srt_rise {l : List Nat} (h : l.Nodup) : (srt l).Pairwise (· < ·) := by
  have s : (srt l).Pairwise fun a b => decide (a ≤ b) = true := List.pairwise_mergeSort (fun a b c h1 h2 => by
    simp at *
    omega) (fun a b => by
    simp
    omega) l
  have nd : (srt l).Nodup := (srt_perm l).nodup_iff.mpr h
  have : (srt l).Pairwise fun a b => decide (a ≤ b) = true ∧ a ≠ b := s.and nd
  refine this.imp fun h => ?_
  have := of_decide_eq_true h.1
  omega
theorem srt_filter {l : List Nat} {n : Nat} (h : l.Nodup) (s : ∀ x ∈ l, x < n) (p : Nat → Bool) (hp : ∀ x, x < n → (p x = true ↔ x ∈ l)) : srt l = (List.range n).filter p :=
  rise_eq (srt_rise h) (rise_filter (rise_range n) p) fun x => by
    rw [(srt_perm l).mem_iff, List.mem_filter, List.mem_range]
    exact ⟨fun hx => ⟨s x hx, (hp x (s x hx)).mpr hx⟩, fun hx => (hp x hx.1).mp hx.2⟩

theorem di_inj {a b : Nat} : di a = di b ↔ a = b := by
  simp
  omega
theorem dis_inj {a b : List Nat} : dis a = dis b ↔ a = b := by
  constructor
  · intro h
    have : (dis a).map (fun d => match d with | .int i => i.toNat | _ => 0) = (dis b).map (fun d => match d with | .int i => i.toNat | _ => 0) := by rw [h]
    simpa [List.map_map, Function.comp_def] using this
  · intro h
    rw [h]
theorem fit_di (a : Nat) : (di a).fit = true := rfl
theorem plains_iff {xs : List D} : D.plains xs = true ↔ ∀ x ∈ xs, D.plain x = true := by
  induction xs with
  | nil => simp [D.plains]
  | cons x xs ih => simp [D.plains, ih]
theorem depths_le {xs : List D} {k : Nat} (h : ∀ x ∈ xs, D.depth x ≤ k) : D.depths xs ≤ k := by
  induction xs with
  | nil => simp [D.depths]
  | cons x xs ih =>
    simp only [D.depths]
    have := h x List.mem_cons_self
    have := ih fun y hy => h y (List.mem_cons_of_mem _ hy)
    omega
theorem plain_dis (l : List Nat) : D.plains (dis l) = true := plains_iff.mpr fun x hx => by
  obtain ⟨n, _, rfl⟩ := List.mem_map.mp hx
  rfl
theorem depth_dis (l : List Nat) : D.depths (dis l) = 0 := Nat.le_zero.mp (depths_le fun x hx => by
  obtain ⟨n, _, rfl⟩ := List.mem_map.mp hx
  exact Nat.le_refl _)
abbrev dl (l : List Nat) : D := .lst (dis l)
abbrev tp (l : List Nat) : D := .tup (dis l)
abbrev dll (ls : List (List Nat)) : D := .lst (ls.map dl)
theorem fit_dl (l : List Nat) : (dl l).fit = true := by
  simp [D.fit, D.plain, D.depth, plain_dis, depth_dis]
theorem fit_tp (l : List Nat) : (tp l).fit = true := by
  simp [D.fit, D.plain, D.depth, plain_dis, depth_dis]
theorem fit_list {xs : List D} (h : ∀ x ∈ xs, x.plain = true ∧ x.depth ≤ 60) : (D.lst xs).fit = true := by
  simp only [D.fit, D.plain, D.depth, Bool.and_eq_true, decide_eq_true_eq]
  refine ⟨plains_iff.mpr fun x hx => (h x hx).1, ?_⟩
  have := depths_le (k := 60) fun x hx => (h x hx).2
  exact decide_eq_true (by omega)
theorem sortD_dis {l : List Nat} (h : l.length ≤ 16777216) : sortD (dis l) = some (dis (srt l)) := by
  have so : sortable (dis l) = true := by
    simp only [sortable, SIZE_eq, List.length_map, Bool.and_eq_true, Bool.or_eq_true, decide_eq_true_eq, List.all_eq_true]
    refine ⟨⟨fun x hx => ?_, .inr fun x hx => ?_⟩, h⟩
    · obtain ⟨n, _, rfl⟩ := List.mem_map.mp hx
      refine ⟨rfl, fun y hy => ?_⟩
      obtain ⟨m, _, rfl⟩ := List.mem_map.mp hy
      rfl
    · obtain ⟨n, _, rfl⟩ := List.mem_map.mp hx
      rfl
  unfold sortD
  rw [if_pos so]
  congr 1
  refine (List.map_mergeSort (f := di) fun a _ b _ => ?_).symm
  show decide (a ≤ b) = !decide ((b : Int) < (a : Int))
  by_cases hab : a ≤ b
  · have : ¬ ((b : Int) < (a : Int)) := by omega
    simp [hab, this]
  · have : (b : Int) < (a : Int) := by omega
    simp [hab, this]
def lexB : List Nat → List Nat → Bool
  | [], [] => false
  | [], _ :: _ => true
  | _ :: _, [] => false
  | x :: xs, y :: ys => if x = y then lexB xs ys else decide (x < y)
theorem ltDs_dis : ∀ a b : List Nat, ltDs (dis a) (dis b) = lexB a b
  | [], [] => rfl
  | [], _ :: _ => rfl
  | _ :: _, [] => rfl
  | x :: xs, y :: ys => by
    show (if di x = di y then ltDs (dis xs) (dis ys) else decide ((x : Int) < (y : Int))) = if x = y then lexB xs ys else decide (x < y)
    by_cases e : x = y
    · rw [if_pos e, if_pos (by rw [e]), ltDs_dis xs ys]
    · rw [if_neg e, if_neg (by rw [di_inj]; exact e)]
      by_cases l : x < y
      · have : (x : Int) < (y : Int) := by omega
        simp [l, this]
      · have : ¬ (x : Int) < (y : Int) := by omega
        simp [l, this]
theorem lexB_total : ∀ a b : List Nat, lexB a b = true → lexB b a = false
  | [], [], h => rfl
  | [], _ :: _, h => rfl
  | _ :: _, [], h => by cases h
  | x :: xs, y :: ys, h => by
    simp only [lexB] at h ⊢
    by_cases e : x = y
    · rw [if_pos e] at h
      rw [if_pos e.symm]
      exact lexB_total xs ys h
    · rw [if_neg e] at h
      rw [if_neg (Ne.symm e)]
      have := of_decide_eq_true h
      exact decide_eq_false (by omega)
abbrev leB (a b : List Nat) : Bool := !lexB b a
theorem leB_total (a b : List Nat) : (leB a b || leB b a) = true := by
  cases h : lexB b a
  · simp [leB, h]
  · simp [leB, lexB_total _ _ h]
theorem leB_trans : ∀ a b c : List Nat, leB a b = true → leB b c = true → leB a c = true
  | [], _, [], _, _ => rfl
  | [], _, _ :: _, _, _ => rfl
  | _ :: _, [], _, h, _ => by cases h
  | _ :: _, _ :: _, [], _, h => by cases h
  | x :: xs, y :: ys, z :: zs, h, h2 => by
    simp only [leB, lexB, Bool.not_eq_true'] at h h2 ⊢
    by_cases e : y = x
    · by_cases e2 : z = y
      · rw [if_pos e] at h
        rw [if_pos e2] at h2
        rw [if_pos (by omega)]
        have := leB_trans xs ys zs (by simp [leB, h]) (by simp [leB, h2])
        simpa [leB] using this
      · rw [if_neg e2] at h2
        rw [if_neg (by omega)]
        have := of_decide_eq_false h2
        exact decide_eq_false (by omega)
    · rw [if_neg e] at h
      have h' := of_decide_eq_false h
      by_cases e2 : z = y
      · rw [if_neg (by omega)]
        exact decide_eq_false (by omega)
      · rw [if_neg e2] at h2
        have h2' := of_decide_eq_false h2
        rw [if_neg (by omega)]
        exact decide_eq_false (by omega)
abbrev srtL (ls : List (List Nat)) : List (List Nat) := ls.mergeSort leB
theorem sortD_dll {ls : List (List Nat)} (h : ls.length ≤ 16777216) (hl : ∀ l ∈ ls, ∀ m ∈ ls, likeDs (dis l) (dis m) = true) : sortD (ls.map dl) = some ((srtL ls).map dl) := by
  have so : sortable (ls.map dl) = true := by
    simp only [sortable, SIZE_eq, List.length_map, Bool.and_eq_true, Bool.or_eq_true, decide_eq_true_eq, List.all_eq_true]
    refine ⟨⟨fun x hx => ?_, .inr fun x hx => ?_⟩, h⟩
    · obtain ⟨n, hn, rfl⟩ := List.mem_map.mp hx
      refine ⟨fit_dl n, fun y hy => ?_⟩
      obtain ⟨m, hm, rfl⟩ := List.mem_map.mp hy
      exact hl n hn m hm
    · obtain ⟨n, _, rfl⟩ := List.mem_map.mp hx
      rfl
  unfold sortD
  rw [if_pos so]
  congr 1
  refine (List.map_mergeSort (f := dl) fun a _ b _ => ?_).symm
  show (!lexB b a) = !ltDs (dis b) (dis a)
  rw [ltDs_dis]
theorem likeDs_dis : ∀ a b : List Nat, likeDs (dis a) (dis b) = true
  | [], [] => rfl
  | [], _ :: _ => rfl
  | _ :: _, [] => rfl
  | x :: xs, y :: ys => by
    show (true && likeDs (dis xs) (dis ys)) = true
    rw [likeDs_dis xs ys]
    rfl
theorem srtL_eq {ls ms : List (List Nat)} (hp : ms.Perm ls) (hs : ms.Pairwise fun a b => lexB a b = true) : srtL ls = ms := by
  have s : (srtL ls).Pairwise fun a b => leB a b = true := List.pairwise_mergeSort leB_trans leB_total ls
  have p : (srtL ls).Perm ms := (List.mergeSort_perm ls _).trans hp.symm
  clear hp
  generalize srtL ls = xs at s p
  induction ms generalizing xs with
  | nil => exact List.Perm.eq_nil p
  | cons m r ih =>
    have hs' := List.pairwise_cons.mp hs
    cases xs with
    | nil => exact absurd p.length_eq (by simp)
    | cons x xr =>
      have s' := List.pairwise_cons.mp s
      have e : x = m := by
        rcases List.mem_cons.mp (p.subset List.mem_cons_self) with e | e
        · exact e
        · have h1 := hs'.1 x e
          rcases List.mem_cons.mp (p.symm.subset List.mem_cons_self) with e2 | e2
          · exact e2.symm
          · have h2 := s'.1 m e2
            simp [leB, h1] at h2
      subst e
      rw [ih hs'.2 xr s'.2 (List.Perm.cons_inv p)]
end Mi
end
section
set_option Elab.async false
set_option linter.all false
set_option maxRecDepth 100000
set_option maxHeartbeats 4000000
namespace k29
open PySem Mi
def b_ring_from : S :=
    (sSeq (sSet 2 (eLc (lDisp (aCons (eVar 0) aNil))))
    (sSeq (sSet 3 (eDc [((eVar 0), (eC (.bl true)))]))
    (sSeq (sSet 4 (eC (.int 0)))
    (sSeq (sWhile (e2 oLt (eVar 4) (e1 oLen (eVar 2))) (sSeq (sFor (iLst (eVar 1)) (gN 5) (sSeq (sSet 6 (e2 oIx (eVar 5) (e2 oIx (eVar 2) (eVar 4))))
    (sIf (e2 oDNotIn (eVar 6) (eVar 3)) (sSeq (sPut putD (eVar 3) (eVar 6) (eC (.bl true)))
    (sExpr (m1 isL oAppend (eVar 2) (aCons (eVar 6) aNil)))) sNext)))
    (sAug 4 oAdd (eC (.int 1)))))
    (sRet (eL (lSorted (eVar 2))))))))
def f_ring_from : Fn := fn 2 7 b_ring_from
def b_rings_of : S :=
    (sSeq (sSet 2 (eLc (lDisp aNil)))
    (sSeq (sSet 3 (eDc []))
    (sSeq (sFor (iRange (eVar 0)) (gN 4) (sIf (e2 oDNotIn (eVar 4) (eVar 3)) (sSeq (sSet 5 (call (popped f_ring_from) (aCons (eVar 4) (aCons (eVar 1) aNil))))
    (sSeq (sFor (iLst (eVar 5)) (gN 6) (sPut putD (eVar 3) (eVar 6) (eC (.bl true))))
    (sExpr (m1 isL oAppend (eVar 2) (aCons (eVar 5) aNil))))) sNext))
    (sRet (eVar 2)))))
def f_rings_of : Fn := fn 2 7 b_rings_of
def b_parts_by : S :=
    (sSeq (sSet 1 (eDc []))
    (sSeq (sFor (iRange (e1 oLen (eVar 0))) (gN 2) (sIf (e2 oDIn (e2 oIx (eVar 0) (eVar 2)) (eVar 1)) (sExpr (m1 isL oAppend (e2 oDGet (eVar 1) (e2 oIx (eVar 0) (eVar 2))) (aCons (eVar 2) aNil))) (sPut putD (eVar 1) (e2 oIx (eVar 0) (eVar 2)) (eLc (lDisp (aCons (eVar 2) aNil))))))
    (sRet (eL (lVals (eVar 1))))))
def f_parts_by : Fn := fn 1 3 b_parts_by
def b_finest : S :=
    (sSeq (sSet 3 (eL (lRange (eVar 0))))
    (sSeq (sSet 4 (eLc (lList (eVar 2))))
    (sSeq (sSet 5 (eC (.int 0)))
    (sSeq (sWhile (e2 oLt (eVar 5) (e1 oLen (eVar 4))) (sSeq (sAsg (gT [(gN 6), (gN 7)]) (e2 oIx (eVar 4) (eVar 5)))
    (sSeq (sAug 5 oAdd (eC (.int 1)))
    (sSeq (sSet 8 (e2 oIx (eVar 3) (eVar 6)))
    (sSeq (sSet 9 (e2 oIx (eVar 3) (eVar 7)))
    (sIf (e2 oNeS (eVar 8) (eVar 9)) (sSeq (sSet 3 (eL (lComp [10] (iLst (eVar 3)) (gN 10) eYes (eIf (e2 oEqS (eVar 10) (eVar 9)) (eVar 8) (eVar 10)))))
    (sExpr (m1 isL oExtend (eVar 4) (aCons (eL (lComp [11] (iLst (eVar 1)) (gN 11) eYes (eTup (aCons (e2 oIx (eVar 11) (eVar 6)) (aCons (e2 oIx (eVar 11) (eVar 7)) aNil))))) aNil)))) sNext))))))
    (sRet (call (popped f_parts_by) (aCons (eVar 3) aNil)))))))
def f_finest : Fn := fn 3 12 b_finest
def b__law_hand : S :=
    (sSeq (sSet 2 (eC (.int 0)))
    (sSeq (sIf (e2 oLt (eVar 1) (e1 oLen (eVar 0))) (sSet 2 (e2 oIx (eVar 0) (eVar 1))) sNext)
    (sSeq (sSet 3 (e2 oMul (e2 oMul (e2 oMul (e2 oPow (eC (.int 10)) (eC (.int 60))) (e2 oPow (eC (.int 10)) (eC (.int 60)))) (e2 oPow (eC (.int 10)) (eC (.int 60)))) (e2 oPow (eC (.int 10)) (eC (.int 60)))))
    (sSeq (sSet 4 (e2 oMod (e2 oMul (e2 oAdd (e2 oAdd (e2 oMod (eVar 2) (eC (.int 2147483629))) (e2 oMul (eC (.int 7919)) (eVar 1))) (eC (.int 11))) (eC (.int 48271))) (eC (.int 2147483647))))
    (sRet (eLc (lDisp (aCons (e2 oMul (e2 oMod (e1 oAbs (eVar 2)) (eVar 3)) (e1 oInt (e2 oGe (e1 oAbs (eVar 2)) (e2 oPow (eC (.int 10)) (eC (.int 18)))))) (aCons (eVar 4) (aCons (eC (.int 0)) aNil))))))))))
def f__law_hand : Fn := fn 2 5 b__law_hand
def b__law_take : S :=
    (sSeq (sIf (e2 oGt (e2 oIx (eVar 0) (eC (.int 0))) (eC (.int 0))) (sSeq (sSet 2 (e2 oMod (e2 oIx (eVar 0) (eC (.int 0))) (eVar 1)))
    (sSeq (sPut putL (eVar 0) (eC (.int 0)) (e2 oDiv (e2 oIx (eVar 0) (eC (.int 0))) (eVar 1)))
    (sRet (eVar 2)))) sNext)
    (sSeq (sPut putL (eVar 0) (eC (.int 2)) (e2 oAdd (e2 oIx (eVar 0) (eC (.int 2))) (eC (.int 1))))
    (sSeq (sPut putL (eVar 0) (eC (.int 1)) (e2 oMod (e2 oAdd (e2 oAdd (e2 oMul (e2 oIx (eVar 0) (eC (.int 1))) (eC (.int 39373))) (eC (.int 12345))) (e2 oMul (eC (.int 31)) (e2 oIx (eVar 0) (eC (.int 2))))) (eC (.int 2147483647))))
    (sRet (e2 oMod (e2 oDiv (e2 oMod (e2 oMul (e2 oIx (eVar 0) (eC (.int 1))) (e2 oAdd (e2 oMod (e2 oIx (eVar 0) (eC (.int 1))) (eC (.int 40009))) (eC (.int 3)))) (eC (.int 2147483629))) (eC (.int 64))) (eVar 1))))))
def f__law_take : Fn := fn 2 3 b__law_take
def b__law_pick : S :=
    (sRet (e2 oIx (eVar 1) (call (popped f__law_take) (aCons (eVar 0) (aCons (e1 oLen (eVar 1)) aNil)))))
def f__law_pick : Fn := fn 2 2 b__law_pick
def b__law_turning : S :=
    (sSeq (sSet 2 (eLc (lDisp aNil)))
    (sSeq (sFor (iRange (eVar 1)) (gN 3) (sExpr (m1 isL oInsert (eVar 2) (aCons (call (popped f__law_take) (aCons (eVar 0) (aCons (e2 oAdd (eVar 3) (eC (.int 1))) aNil))) (aCons (eVar 3) aNil)))))
    (sRet (e1 oTuple (eVar 2)))))
def f__law_turning : Fn := fn 2 4 b__law_turning
def b__law_rows : S :=
    (sSeq (sSet 2 (eL (lList (call (popped f__law_turning) (aCons (eVar 0) (aCons (eVar 1) aNil))))))
    (sSeq (sSet 3 (eLc (lDisp (aCons (eC (.int 0)) (aCons (eVar 1) aNil)))))
    (sSeq (sFor (iRange (call (popped f__law_take) (aCons (eVar 0) (aCons (eC (.int 6)) aNil)))) (gN 4) (sExpr (m1 isL oAppend (eVar 3) (aCons (call (popped f__law_take) (aCons (eVar 0) (aCons (eVar 1) aNil))) aNil))))
    (sSeq (sSet 3 (eLc (lSortSet (eVar 3))))
    (sRet (eL (lComp [5] (iRange (e2 oSub (e1 oLen (eVar 3)) (eC (.int 1)))) (gN 5) eYes (eL (lCut (eVar 2) (some (e2 oIx (eVar 3) (eVar 5))) (some (e2 oIx (eVar 3) (e2 oAdd (eVar 5) (eC (.int 1))))))))))))))
def f__law_rows : Fn := fn 2 6 b__law_rows
def b__law_ordered : S :=
    (sSeq (sSet 2 (call (popped f__law_take) (aCons (eVar 0) (aCons (eC (.int 3)) aNil))))
    (sSeq (sIf (e2 oEqS (eVar 2) (eC (.int 0))) (sSet 1 (eL (lBack (eVar 1)))) sNext)
    (sSeq (sIf (e2 oEqS (eVar 2) (eC (.int 2))) (sSet 1 (eL (lComp [3] (iTup (call (popped f__law_turning) (aCons (eVar 0) (aCons (e1 oLen (eVar 1)) aNil)))) (gN 3) eYes (e2 oIx (eVar 1) (eVar 3))))) sNext)
    (sSeq (sIf (e2 oEqS (call (popped f__law_take) (aCons (eVar 0) (aCons (eC (.int 3)) aNil))) (eC (.int 0))) (sSet 1 (eL (lAdd (eVar 1) (eVar 1)))) sNext)
    (sRet (eVar 1))))))
def f__law_ordered : Fn := fn 2 4 b__law_ordered
def b__law_exchange : S :=
    (sSeq (sSet 3 (eLc (lRange (eVar 2))))
    (sSeq (sPut putL (eVar 3) (eVar 0) (eVar 1))
    (sSeq (sPut putL (eVar 3) (eVar 1) (eVar 0))
    (sRet (e1 oTuple (eVar 3))))))
def f__law_exchange : Fn := fn 3 4 b__law_exchange
def b__law_alike : S :=
    (sSeq (sIf (eOr (e1 oNot (e1 (oIsa .list) (eVar 0))) (e2 oNe (eVar 0) (eVar 1))) (sRet (eC (.bl false))) sNext)
    (sSeq (sFor (iLst (eVar 0)) (gN 2) (sIf (eOr (e1 oNot (e1 (oIsa .list) (eVar 2))) (e1 oNot (e1 oAll (eL (lComp [3] (iLst (eVar 2)) (gN 3) eYes (eAnd (e1 (oIsa .int) (eVar 3)) (e1 oNot (e1 (oIsa .bool) (eVar 3))))))))) (sRet (eC (.bl false))) sNext))
    (sRet (eC (.bl true)))))
def f__law_alike : Fn := fn 2 4 b__law_alike
def b__law_some_rows : S :=
    (sSeq (sPar 2 3 (eLc (lDisp aNil)) (eLc (lDisp aNil)))
    (sSeq (sFor (iLst (eVar 1)) (gN 4) (sIf (eAnd (e2 oGt (e1 oLen (eVar 4)) (eC (.int 1))) (e2 oGt (call (popped f__law_take) (aCons (eVar 0) (aCons (eC (.int 3)) aNil))) (eC (.int 0)))) (sSeq (sSet 5 (call (popped f__law_pick) (aCons (eVar 0) (aCons (eL (lDisp (aCons (eC (.int 0)) (aCons (e2 oSub (e1 oLen (eVar 4)) (eC (.int 2))) (aCons (call (popped f__law_take) (aCons (eVar 0) (aCons (e2 oSub (e1 oLen (eVar 4)) (eC (.int 1))) aNil))) aNil))))) aNil))))
    (sSeq (sSet 6 (eTup (aCons (e2 oIx (eVar 4) (eVar 5)) (aCons (e2 oIx (eVar 4) (e2 oAdd (eVar 5) (eC (.int 1)))) aNil))))
    (sSeq (sExpr (m1 isL oAppend (eVar 2) (aCons (call (popped f__law_pick) (aCons (eVar 0) (aCons (eL (lDisp (aCons (eVar 6) (aCons (eTup (aCons (e2 oIx (eVar 6) (eC (.int 1))) (aCons (e2 oIx (eVar 6) (eC (.int 0))) aNil))) aNil)))) aNil))) aNil)))
    (sExpr (m1 isL oAppend (eVar 3) (aCons (eVar 4) aNil)))))) sNext))
    (sRet (eTup (aCons (eVar 2) (aCons (eVar 3) aNil))))))
def f__law_some_rows : Fn := fn 2 7 b__law_some_rows
def b__law_right : S :=
    (sSeq (sSet 3 (eL (lSorted (eL (lComp [4] (iLst (eVar 1)) (gN 4) eYes (eL (lSorted (eVar 4))))))))
    (sSeq (sSet 5 (eL (lDisp aNil)))
    (sSeq (sFor (iLst (eVar 1)) (gN 4) (sSet 5 (eL (lAdd (eVar 5) (eL (lComp [6] (iRange (e2 oSub (e1 oLen (eVar 4)) (eC (.int 1)))) (gN 6) eYes (eTup (aCons (e2 oIx (eVar 4) (eVar 6)) (aCons (e2 oIx (eVar 4) (e2 oAdd (eVar 6) (eC (.int 1)))) aNil)))))))))
    (sSeq (sSet 5 (call (popped f__law_ordered) (aCons (eVar 0) (aCons (eVar 5) aNil))))
    (sSeq (sSet 7 (eL (lComp [8, 9] (iLst (eVar 5)) (gT [(gN 8), (gN 9)]) eYes (call (popped f__law_exchange) (aCons (eVar 8) (aCons (eVar 9) (aCons (eVar 2) aNil)))))))
    (sSeq (sSet 10 (eL (lList (eVar 7))))
    (sSeq (sIf (eOr (e1 oNot (call (popped f__law_alike) (aCons (call (popped f_rings_of) (aCons (eVar 2) (aCons (eVar 7) aNil))) (aCons (eVar 3) aNil)))) (e2 oNe (eVar 7) (eVar 10))) (sRet (eC (.bl false))) sNext)
    (sSeq (sSet 11 (eL (lComp [12] (iLst (eVar 5)) (gN 12) eYes (call (popped f__law_pick) (aCons (eVar 0) (aCons (eL (lDisp (aCons (eVar 12) (aCons (eTup (aCons (e2 oIx (eVar 12) (eC (.int 1))) (aCons (e2 oIx (eVar 12) (eC (.int 0))) aNil))) aNil)))) aNil))))))
    (sSeq (sSet 13 (eL (lList (eVar 11))))
    (sSeq (sIf (eOr (e1 oNot (call (popped f__law_alike) (aCons (call (popped f_finest) (aCons (eVar 2) (aCons (eL (lDisp aNil)) (aCons (eVar 11) aNil)))) (aCons (eVar 3) aNil)))) (e2 oNe (eVar 11) (eVar 13))) (sRet (eC (.bl false))) sNext)
    (sSeq (sAsg (gT [(gN 14), (gN 15)]) (call (popped f__law_some_rows) (aCons (eVar 0) (aCons (eVar 1) aNil))))
    (sSeq (sSet 16 (eL (lComp [17] (iRange (eVar 2)) (gN 17) (e1 oNot (e1 oAny (eL (lComp [4] (iLst (eVar 15)) (gN 4) eYes (e2 oIn (eVar 17) (eVar 4)))))) (eVar 17))))
    (sSeq (sSet 3 (eL (lSorted (eL (lAdd (eL (lComp [4] (iLst (eVar 15)) (gN 4) eYes (eL (lSorted (eVar 4))))) (eL (lComp [17] (iLst (eVar 16)) (gN 17) eYes (eL (lDisp (aCons (eVar 17) aNil))))))))))
    (sRet (eAnd (call (popped f__law_alike) (aCons (call (popped f_finest) (aCons (eVar 2) (aCons (eVar 7) (aCons (eL (lList (eVar 14))) aNil)))) (aCons (eVar 3) aNil))) (e2 oEq (eVar 7) (eVar 10)))))))))))))))))
def f__law_right : Fn := fn 3 18 b__law_right
def b_law : S :=
    (sSeq (sFor (iRange (e2 oAdd (eC (.int 1)) (e2 oMin2 (eC (.int 2)) (e1 oLen (eVar 0))))) (gN 1) (sSeq (sSet 2 (call f__law_hand (aCons (eVar 0) (aCons (eVar 1) aNil))))
    (sSeq (sSet 3 (e2 oAdd (eC (.int 2)) (call (popped f__law_take) (aCons (eVar 2) (aCons (eC (.int 59)) aNil)))))
    (sIf (e1 oNot (call (popped f__law_right) (aCons (eVar 2) (aCons (call (popped f__law_rows) (aCons (eVar 2) (aCons (eVar 3) aNil))) (aCons (eVar 3) aNil))))) (sRet (eC (.bl false))) sNext))))
    (sRet (eC (.bl true))))
def f_law : Fn := fn 1 4 b_law
end k29
end
section
set_option linter.all false
set_option maxHeartbeats 1000000
namespace Mi
open PySem
abbrev tru (n : Nat) : List D := List.replicate n (.bl true)
abbrev sd (l : List Nat) : Cell := .dct (dis l) (tru l.length)
def addN (l : List Nat) (y : Nat) : List Nat := if y ∈ l then l else l ++ [y]
theorem find_tru (y : Nat) : ∀ l : List Nat, (find (di y) (dis l) (tru l.length)).isSome = decide (y ∈ l)
  | [] => rfl
  | x :: r => by
    have ih := find_tru y r
    show (if di x = di y then some (D.bl true) else find (di y) (dis r) (tru r.length)).isSome = _
    by_cases e : x = y
    · rw [if_pos (by rw [e])]
      simp [e]
    · rw [if_neg (by rw [di_inj]; exact e), ih]
      have : ¬ y = x := fun h => e h.symm
      simp [this]
theorem find_none (y : Nat) (l : List Nat) : (find (di y) (dis l) (tru l.length) = none) = (y ∉ l) := by
  have := find_tru y l
  cases h : find (di y) (dis l) (tru l.length) with
  | none =>
    rw [h] at this
    have := of_decide_eq_false this.symm
    simp [this]
  | some v =>
    rw [h] at this
    have := of_decide_eq_true this.symm
    simp [this]
theorem mem_dis {y : Nat} {l : List Nat} : di y ∈ dis l ↔ y ∈ l := by
  constructor
  · intro h
    obtain ⟨z, hz, e⟩ := List.mem_map.mp h
    rw [← di_inj.mp e]
    exact hz
  · intro h
    exact List.mem_map.mpr ⟨y, h, rfl⟩
theorem zip_tru (k : D) : ∀ l : List D, List.zipWith (fun k' v' => if k' = k then D.bl true else v') l (tru l.length) = tru l.length
  | [] => rfl
  | x :: r => by
    have ih := zip_tru k r
    show (if x = k then D.bl true else D.bl true) :: List.zipWith (fun k' v' => if k' = k then D.bl true else v') r (tru r.length) = _
    rw [ih]
    split <;> rfl
theorem put_tru (y : Nat) (l : List Nat) : put (di y) (.bl true) (dis l) (tru l.length) = (dis (addN l y), tru (addN l y).length) := by
  unfold put addN
  by_cases h : y ∈ l
  · rw [if_pos (mem_dis.mpr h), if_pos h]
    have := zip_tru (di y) (dis l)
    rw [List.length_map] at this
    rw [this]
  · rw [if_neg (fun e => h (mem_dis.mp e)), if_neg h]
    simp [List.replicate_succ']
theorem addN_mem {l : List Nat} {y z : Nat} : z ∈ addN l y ↔ z ∈ l ∨ z = y := by
  unfold addN
  split
  · rename_i h
    exact ⟨.inl, fun e => e.elim id fun e => e ▸ h⟩
  · simp
theorem addN_nodup {l : List Nat} (y : Nat) (h : l.Nodup) : (addN l y).Nodup := by
  unfold addN
  split
  · exact h
  · rename_i hy
    rw [List.nodup_append]
    refine ⟨h, by simp, fun a ha b hb => ?_⟩
    rw [List.mem_singleton] at hb
    subst hb
    exact fun e => hy (e ▸ ha)

inductive Reach (ms : List (List Nat)) (x : Nat) : Nat → Prop where
  | refl : Reach ms x x
  | step {y z : Nat} {m : List Nat} : Reach ms x y → m ∈ ms → m[y]? = some z → Reach ms x z
theorem Reach.trans {ms : List (List Nat)} {x y z : Nat} (h : Reach ms x y) (h2 : Reach ms y z) : Reach ms x z := by
  induction h2 with
  | refl => exact h
  | step _ hm e ih => exact ih.step hm e
theorem Reach.in_ {ms : List (List Nat)} {x : Nat} (S : Nat → Prop) (h0 : S x) (hs : ∀ y z m, S y → m ∈ ms → m[y]? = some z → S z) {y : Nat} (h : Reach ms x y) : S y := by
  induction h with
  | refl => exact h0
  | step _ hm e ih => exact hs _ _ _ ih hm e
abbrev Mk (n : Nat) (m : List Nat) : Prop := m.Perm (List.range n)
theorem Mk.at_ {n : Nat} {m : List Nat} (h : Mk n m) {y : Nat} (hy : y < n) : ∃ z, m[y]? = some z ∧ z < n := by
  have hl : m.length = n := by rw [h.length_eq, List.length_range]
  have : y < m.length := by omega
  refine ⟨m[y], List.getElem?_eq_getElem this, ?_⟩
  exact List.mem_range.mp (h.subset (List.getElem_mem this))
theorem Mk.lt {n : Nat} {m : List Nat} (h : Mk n m) {y z : Nat} (e : m[y]? = some z) : z < n := List.mem_range.mp (h.subset (List.mem_of_getElem? e))
theorem Reach.lt {ms : List (List Nat)} {n x y : Nat} (hm : ∀ m ∈ ms, Mk n m) (hx : x < n) (h : Reach ms x y) : y < n :=
  h.in_ (· < n) hx fun _ _ m _ hm' e => (hm m hm').lt e
theorem Mk.back {n : Nat} {m : List Nat} (h : Mk n m) (S : Nat → Prop) (hS : ∀ y z, y < n → S y → m[y]? = some z → S z) {y z : Nat} (hy : y < n) (e : m[y]? = some z) (hz : S z) : S y := by
  classical
  let l := (List.range n).filter fun a => decide (S a)
  have nl : l.Nodup := List.nodup_range.filter _
  have hl : m.length = n := by rw [h.length_eq, List.length_range]
  have nm : m.Nodup := h.nodup_iff.mpr List.nodup_range
  have inj : ∀ a b c : Nat, m[a]? = some c → m[b]? = some c → a = b := fun a b c h1 h2 => by
    have ha := (List.getElem?_eq_some_iff.mp h1).1
    exact (List.getElem?_inj ha nm).mp (h1.trans h2.symm)
  let f : Nat → Nat := fun a => m[a]?.getD 0
  have hf : ∀ a, a < n → m[a]? = some (f a) := fun a ha => by
    obtain ⟨b, hb, _⟩ := h.at_ ha
    show m[a]? = some (m[a]?.getD 0)
    rw [hb]
    rfl
  have mem : ∀ a, a ∈ l ↔ a < n ∧ S a := fun a => by
    show a ∈ (List.range n).filter _ ↔ _
    rw [List.mem_filter, List.mem_range, decide_eq_true_eq]
  have sub : ∀ b ∈ l.map f, b ∈ l := fun b hb => by
    obtain ⟨a, ha, rfl⟩ := List.mem_map.mp hb
    have ha' := (mem a).mp ha
    exact (mem _).mpr ⟨h.lt (hf a ha'.1), hS a _ ha'.1 ha'.2 (hf a ha'.1)⟩
  have nf : (l.map f).Nodup := by
    rw [List.Nodup, List.pairwise_map]
    refine (List.pairwise_iff_getElem.mpr fun i j hi hj hij => ?_)
    intro e'
    have a1 := ((mem _).mp (List.getElem_mem hi)).1
    have a2 := ((mem _).mp (List.getElem_mem hj)).1
    have := inj _ _ _ (hf _ a1) (by rw [e']; exact hf _ a2)
    exact List.pairwise_iff_getElem.mp nl i j hi hj hij this
  have sup := nodup_sup nf sub (by rw [List.length_map]; exact Nat.le_refl _)
  have := sup z ((mem z).mpr ⟨h.lt e, hz⟩)
  obtain ⟨a, ha, ea⟩ := List.mem_map.mp this
  have ha' := (mem a).mp ha
  have : y = a := inj _ _ _ e (by rw [← ea]; exact hf a ha'.1)
  rw [this]
  exact ha'.2
theorem Reach.symm {ms : List (List Nat)} {n x y : Nat} (hm : ∀ m ∈ ms, Mk n m) (hx : x < n) (h : Reach ms x y) : Reach ms y x := by
  induction h with
  | refl => exact .refl
  | @step y z m hxy hm' e ih =>
    have hy := hxy.lt hm hx
    have : Reach ms z y := (hm m hm').back (Reach ms z) (fun a b _ ha e => ha.step hm' e) hy e .refl
    exact this.trans ih

def h_ring_from : S :=
    (sSeq (sSet 2 (eLc (lDisp (aCons (eVar 0) aNil))))
    (sSeq (sSet 3 (eDc [((eVar 0), (eC (.bl true)))]))
    (sSeq (sSet 4 (eC (.int 0)))
    (sSeq (sWhile (e2 oLt (eVar 4) (e1 oLen (eVar 2))) (sSeq (sFor (iLst (eVar 1)) (gN 5) (sSeq (sSet 6 (e2 oIx (eVar 5) (e2 oIx (eVar 2) (eVar 4))))
    (sIf (e2 oDNotIn (eVar 6) (eVar 3)) (sSeq (sPut putD (eVar 3) (eVar 6) (eC (.bl true)))
    (sExpr (m1 isL oAppend (eVar 2) (aCons (eVar 6) aNil)))) sNext)))
    (sAug 4 oAdd (eC (.int 1)))))
    (sRet (eL (lSorted (eVar 2))))))))
theorem own2 {cs : Cs} {a b : Cell} : (cs ++ [a, b])[cs.length]? = some a ∧ (cs ++ [a, b])[cs.length + 1]? = some b := by
  constructor
  · rw [List.getElem?_append_right (Nat.le_refl _), Nat.sub_self]
    rfl
  · rw [List.getElem?_append_right (by omega), Nat.add_sub_cancel_left]
    rfl
theorem own2a {cs : Cs} {a b : Cell} : (cs ++ [a, b])[cs.length]? = some a := own2.1
theorem own2b {cs : Cs} {a b : Cell} : (cs ++ [a, b])[cs.length + 1]? = some b := own2.2
theorem set2a {cs : Cs} {a b c : Cell} : (cs ++ [a, b]).set cs.length c = cs ++ [c, b] := by
  rw [List.set_append_right _ _ (Nat.le_refl _), Nat.sub_self]
  rfl
theorem set2b {cs : Cs} {a b c : Cell} : (cs ++ [a, b]).set (cs.length + 1) c = cs ++ [a, c] := by
  rw [List.set_append_right _ _ (by omega), Nat.add_sub_cancel_left]
  rfl
theorem ring_from_ok {cs : Cs} {ms : List (List Nat)} {n x : Nat} (hm : ∀ m ∈ ms, Mk n m) (hx : x < n) (hn : n < 1000000) :
    got (popped (fn 2 7 h_ring_from) [di x, .lst (ms.map tp)] cs) fun r => ∃ l : List Nat, r = .v (dl l) cs ∧ l.Pairwise (· < ·) ∧ ∀ y, y ∈ l ↔ Reach ms x y := by
  refine got_popped (got_fn rfl ?_)
  simp [h_ring_from, puts, put]
  let F : List Nat → Prop := fun f => f.Nodup ∧ x ∈ f ∧ ∀ y ∈ f, y < n ∧ Reach ms x y
  let Cl : List Nat → Nat → Prop := fun f v => ∀ m ∈ ms, ∀ z, m[v]? = some z → z ∈ f
  have Fl : ∀ f, F f → f.length ≤ n := fun f h => nodup_lt h.1 fun y hy => (h.2.2 y hy).1
  refine got_while (fun k env cs' => ∃ (f : List Nat) (a : Nat) (y5 y6 : Option D), env = [some (di x), some (.lst (ms.map tp)), some (.cell cs.length), some (.cell (cs.length + 1)), some (di a), y5, y6] ∧
      cs' = cs ++ [.lst (dis f), sd f] ∧ F f ∧ a ≤ f.length ∧ (∀ j v, j < a → f[j]? = some v → Cl f v) ∧ k + a = n) n ?_ ⟨[x], 0, none, none, rfl, rfl, ⟨by simp, by simp, fun y hy => ?_⟩, Nat.zero_le _, fun j v h => absurd h (Nat.not_lt_zero _), by omega⟩ ?_
  · unfold FUEL
    omega
  · rw [List.mem_singleton] at hy
    subst hy
    exact ⟨hx, .refl⟩
  · rintro k env cs' ⟨f, a, y5, y6, rfl, rfl, hF, ha, hc, hk⟩
    have hfl := Fl f hF
    simp [own2a, own2b]
    split
    · rename_i hlt
      obtain ⟨v, hv⟩ : ∃ v, f[a]? = some v := ⟨_, List.getElem?_eq_getElem hlt⟩
      refine got_for (fun i env cs' => ∃ (f' : List Nat) (y5 y6 : Option D), env = [some (di x), some (.lst (ms.map tp)), some (.cell cs.length), some (.cell (cs.length + 1)), some (di a), y5, y6] ∧
        cs' = cs ++ [.lst (dis f'), sd f'] ∧ F f' ∧ (∀ j v : Nat, f[j]? = some v → f'[j]? = some v) ∧ ∀ (j : Nat) (m : List Nat) (z : Nat), j < i → ms[j]? = some m → m[v]? = some z → z ∈ f') ⟨f, y5, y6, rfl, rfl, hF, fun _ _ h => h, fun j _ _ h => absurd h (Nat.not_lt_zero _)⟩ (fun _ _ _ _ _ => rfl) (fun i one env cs' hi hI => ?_) fun env cs' hI => ?_
      · obtain ⟨f', y5, y6, rfl, rfl, hF', hfe, hj⟩ := hI
        rw [List.getElem?_map] at hi
        obtain ⟨m, hmi, rfl⟩ := Option.map_eq_some_iff.mp hi
        have hmm : m ∈ ms := List.mem_of_getElem? hmi
        have hv2 := hfe a v hv
        have hvF := hF'.2.2 v (List.mem_of_getElem? hv2)
        obtain ⟨z, hz, hzn⟩ := (hm m hmm).at_ hvF.1
        have q1 : atI (dis f') (a : Int) = some (di v) := atI_nat (by rw [List.getElem?_map, hv2]; rfl)
        have q2 : atI (dis m) (v : Int) = some (di z) := atI_nat (by rw [List.getElem?_map, hz]; rfl)
        have hl := Fl _ hF'
        by_cases hzf : z ∈ f'
        · simp [own2a, own2b, q1, q2, find_none, put_tru, set2a, set2b, hzf]
          refine ⟨f', ⟨rfl, rfl⟩, hF', hfe, fun j m' z' hj' hm' hz' => ?_⟩
          by_cases e' : j = i
          · subst e'
            rw [hmi] at hm'
            cases hm'
            rw [hz] at hz'
            cases hz'
            exact hzf
          · exact hj j m' z' (by omega) hm' hz'
        · simp [own2a, own2b, q1, q2, find_none, put_tru, set2a, set2b, hzf]
          rw [show addN f' z = f' ++ [z] from if_neg hzf]
          refine ⟨by omega, f' ++ [z], by simp, ⟨?_, List.mem_append_left _ hF'.2.1, ?_⟩, fun j v' h => ?_, ?_⟩
          · have := addN_nodup z hF'.1
            rwa [show addN f' z = f' ++ [z] from if_neg hzf] at this
          · intro y hy
            rcases List.mem_append.mp hy with hy | hy
            · exact hF'.2.2 y hy
            · rw [List.mem_singleton] at hy
              subst hy
              exact ⟨hzn, hvF.2.step hmm hz⟩
          · have := hfe j v' h
            rw [List.getElem?_append_left (List.getElem?_eq_some_iff.mp this).1, this]
          · intro j m' z' hj' hm' hz'
            by_cases e : j = i
            · subst e
              rw [hmi] at hm'
              cases hm'
              rw [hz] at hz'
              cases hz'
              simp
            · exact List.mem_append_left _ (hj j m' z' (by omega) hm' hz')
      · obtain ⟨f', y5, y6, rfl, rfl, hF', hfe, hj⟩ := hI
        have hv2 := hfe a v hv
        have ha2 := (List.getElem?_eq_some_iff.mp hv2).1
        simp
        refine ⟨k - 1, by omega, f', a + 1, by simp, ⟨rfl, rfl⟩, hF', by omega, fun j v' hj' hv' => ?_, by omega⟩
        by_cases e : j = a
        · subst e
          rw [hv2] at hv'
          cases hv'
          intro m hmm z hz
          obtain ⟨i, hi⟩ := List.getElem?_of_mem hmm
          refine hj i m z ?_ hi hz
          rw [List.length_map]
          exact (List.getElem?_eq_some_iff.mp hi).1
        · have hja : j < a := by omega
          have : f[j]? = some v' := by
            obtain ⟨w, hw⟩ : ∃ w, f[j]? = some w := ⟨_, List.getElem?_eq_getElem (by omega)⟩
            have := hfe j w hw
            rw [this] at hv'
            rw [hw, hv']
          intro m hmm z hz
          obtain ⟨i, hi⟩ := List.getElem?_of_mem (hc j v' hja this m hmm z hz)
          exact List.mem_of_getElem? (hfe i z hi)
    · rename_i hge
      have hcl : ∀ v ∈ f, Cl f v := fun v hv => by
        obtain ⟨i, hi⟩ := List.getElem?_of_mem hv
        exact hc i v (by have := (List.getElem?_eq_some_iff.mp hi).1; omega) hi
      simp [own2a, sortD_dis (l := f) (by omega)]
      refine ⟨_, _, ⟨rfl, rfl⟩, _, frozen_pure (pures_dis _), srt f, rfl, srt_rise hF.1, fun y => ?_⟩
      rw [(srt_perm f).mem_iff]
      exact ⟨fun h => (hF.2.2 y h).2, fun h => h.in_ (· ∈ f) hF.2.1 fun y z m hy hm' e => hcl y hy m hm' z e⟩

open Classical in
noncomputable def cls (n : Nat) (R : Nat → Nat → Prop) (p : Nat) : List Nat := (List.range n).filter fun q => decide (R p q)
open Classical in
noncomputable def canonTo (n : Nat) (R : Nat → Nat → Prop) (i : Nat) : List (List Nat) := ((List.range i).filter fun p => decide (∀ q, q < p → ¬ R q p)).map (cls n R)
noncomputable abbrev canon (n : Nat) (R : Nat → Nat → Prop) : List (List Nat) := canonTo n R n
open Classical in
theorem cls_mem {n : Nat} {R : Nat → Nat → Prop} {p q : Nat} : q ∈ cls n R p ↔ q < n ∧ R p q := by
  unfold cls
  rw [List.mem_filter, List.mem_range, decide_eq_true_eq]
open Classical in
theorem cls_rise (n : Nat) (R : Nat → Nat → Prop) (p : Nat) : (cls n R p).Pairwise (· < ·) := rise_filter (rise_range n) _
open Classical in
theorem canon_congr {n : Nat} {R R' : Nat → Nat → Prop} (h : ∀ p q, p < n → q < n → (R p q ↔ R' p q)) : canon n R = canon n R' := by
  unfold canon canonTo
  have e : ((List.range n).filter fun p => decide (∀ q, q < p → ¬ R q p)) = (List.range n).filter fun p => decide (∀ q, q < p → ¬ R' q p) := by
    refine List.filter_congr fun p hp => ?_
    have hp' := List.mem_range.mp hp
    refine decide_eq_decide.mpr ⟨fun hh q hq hr => hh q hq ((h q p (by omega) hp').mpr hr), fun hh q hq hr => hh q hq ((h q p (by omega) hp').mp hr)⟩
  rw [e]
  refine List.map_congr_left fun p hp => ?_
  have hp' := List.mem_range.mp (List.mem_filter.mp hp).1
  unfold cls
  refine List.filter_congr fun q hq => ?_
  exact decide_eq_decide.mpr (h p q hp' (List.mem_range.mp hq))
open Classical in
theorem canonTo_succ (n : Nat) (R : Nat → Nat → Prop) (i : Nat) : canonTo n R (i + 1) = canonTo n R i ++ (if (∀ q, q < i → ¬ R q i) then [cls n R i] else []) := by
  unfold canonTo
  rw [List.range_succ, List.filter_append, List.map_append]
  congr 1
  by_cases h : ∀ q, q < i → ¬ R q i
  · rw [if_pos h]
    simp only [List.filter_cons, List.filter_nil]
    rw [if_pos (decide_eq_true h)]
    rfl
  · rw [if_neg h]
    simp only [List.filter_cons, List.filter_nil]
    rw [if_neg (by rw [decide_eq_true_eq]; exact h)]
    rfl
open Classical in
theorem canonTo_len (n : Nat) (R : Nat → Nat → Prop) (i : Nat) : (canonTo n R i).length ≤ i := by
  unfold canonTo
  rw [List.length_map]
  have := List.length_filter_le (fun p => decide (∀ q, q < p → ¬ R q p)) (List.range i)
  rw [List.length_range] at this
  exact this
def h_rings_of : S :=
    (sSeq (sSet 2 (eLc (lDisp aNil)))
    (sSeq (sSet 3 (eDc []))
    (sSeq (sFor (iRange (eVar 0)) (gN 4) (sIf (e2 oDNotIn (eVar 4) (eVar 3)) (sSeq (sSet 5 (call (popped (fn 2 7 h_ring_from)) (aCons (eVar 4) (aCons (eVar 1) aNil))))
    (sSeq (sFor (iLst (eVar 5)) (gN 6) (sPut putD (eVar 3) (eVar 6) (eC (.bl true))))
    (sExpr (m1 isL oAppend (eVar 2) (aCons (eVar 5) aNil))))) sNext))
    (sRet (eVar 2)))))
open Classical in
theorem rings_of_ok {cs : Cs} {ms : List (List Nat)} {n : Nat} (hm : ∀ m ∈ ms, Mk n m) (hn : n < 1000000) :
    got (popped (fn 2 7 h_rings_of) [di n, .lst (ms.map tp)] cs) fun r => r = .v (dll (canon n (Reach ms))) cs := by
  refine got_popped (got_fn rfl ?_)
  simp [h_rings_of, puts]
  refine ⟨by omega, got_for (fun i env cs' => ∃ (l : List Nat) (y4 y5 y6 : Option D), env = [some (di n), some (.lst (ms.map tp)), some (.cell cs.length), some (.cell (cs.length + 1)), y4, y5, y6] ∧
      cs' = cs ++ [.lst ((canonTo n (Reach ms) i).map dl), sd l] ∧ l.Nodup ∧ ∀ y, y ∈ l ↔ ∃ p, p < i ∧ Reach ms p y) ⟨[], none, none, none, rfl, rfl, List.nodup_nil, fun y => by simp⟩ (fun _ _ _ _ _ => rfl) (fun i x env cs' hx hI => ?_) fun env cs' hI => ?_⟩
  · obtain ⟨l, y4, y5, y6, rfl, rfl, hl, hmem⟩ := hI
    obtain ⟨hi, rfl⟩ := rng_at hx
    have lt : ∀ y ∈ l, y < n := fun y hy => by
      obtain ⟨p, hp, hr⟩ := (hmem y).mp hy
      exact hr.lt hm (by omega)
    have ll := nodup_lt hl lt
    by_cases hil : i ∈ l
    · simp [own2b, find_none, hil]
      obtain ⟨p, hp, hr⟩ := (hmem i).mp hil
      refine ⟨l, ⟨?_, rfl, rfl⟩, hl, fun y => (hmem y).trans ⟨fun ⟨q, hq, h⟩ => ⟨q, by omega, h⟩, fun ⟨q, hq, h⟩ => ?_⟩⟩
      · rw [canonTo_succ, if_neg (fun h => h p hp hr), List.append_nil]
      · by_cases e : q = i
        · subst e
          exact ⟨p, hp, hr.trans h⟩
        · exact ⟨q, by omega, h⟩
    · simp [own2b, find_none, hil]
      refine (ring_from_ok hm hi hn).mono fun r hr => ?_
      obtain ⟨g, rfl, hg, hgm⟩ := hr
      have glt : ∀ y ∈ g, y < n := fun y hy => ((hgm y).mp hy).lt hm hi
      have ge : g = cls n (Reach ms) i := rise_eq hg (cls_rise _ _ _) fun y => by
        rw [cls_mem, hgm]
        exact ⟨fun h => ⟨h.lt hm hi, h⟩, fun h => h.2⟩
      simp
      refine got_for (fun j env cs' => ∃ (l' : List Nat) (y6 : Option D), env = [some (di n), some (.lst (ms.map tp)), some (.cell cs.length), some (.cell (cs.length + 1)), some (di i), some (dl g), y6] ∧
        cs' = cs ++ [.lst ((canonTo n (Reach ms) i).map dl), sd l'] ∧ l'.Nodup ∧ ∀ y, y ∈ l' ↔ y ∈ l ∨ y ∈ g.take j) ⟨l, y6, rfl, rfl, hl, fun y => by simp⟩ (fun _ _ _ _ _ => rfl) (fun j x env cs' hx hI => ?_) fun env cs' hI => ?_
      · obtain ⟨l', y6, rfl, rfl, hl', hm'⟩ := hI
        rw [List.getElem?_map] at hx
        obtain ⟨y, hy, rfl⟩ := Option.map_eq_some_iff.mp hx
        have ll' := nodup_lt hl' fun z hz => by
          rcases (hm' z).mp hz with h | h
          · exact lt z h
          · exact glt z (List.mem_of_mem_take h)
        simp [own2b, put_tru, set2b]
        refine ⟨by omega, addN l' y, ⟨rfl, rfl⟩, addN_nodup y hl', fun z => ?_⟩
        rw [addN_mem, hm', List.take_add_one, hy]
        simp [or_assoc]
      · obtain ⟨l', y6, rfl, rfl, hl', hm'⟩ := hI
        rw [List.length_map, List.take_length] at hm'
        have hc := canonTo_len n (Reach ms) i
        simp [own2a, set2a]
        refine ⟨by omega, l', ⟨?_, rfl, rfl⟩, hl', fun y => ?_⟩
        · rw [canonTo_succ, if_pos, List.map_append, ge]
          · rfl
          · intro q hq hr
            exact hil ((hmem i).mpr ⟨q, hq, hr⟩)
        · rw [hm', hmem, hgm]
          constructor
          · rintro (⟨p, hp, h⟩ | h)
            · exact ⟨p, by omega, h⟩
            · exact ⟨i, by omega, h⟩
          · rintro ⟨p, hp, h⟩
            by_cases e : p = i
            · subst e
              exact .inr h
            · exact .inl ⟨p, by omega, h⟩
  · obtain ⟨l, y4, y5, y6, rfl, rfl, hl, hmem⟩ := hI
    rw [rng_len]
    simp
    refine ⟨_, _, ⟨rfl, rfl⟩, frozen_cell (Nat.le_refl _) own2a ?_⟩
    exact D.pures_iff.mpr fun d hd => by
      obtain ⟨g, _, rfl⟩ := List.mem_map.mp hd
      exact pures_dis g
theorem find_at : ∀ {ks : List Nat} {vs : List D} {j y : Nat}, ks.Nodup → ks[j]? = some y → vs.length = ks.length → find (di y) (dis ks) vs = vs[j]?
  | [], _, _, _, _, h, _ => by simp at h
  | k :: ks, [], _, _, _, _, h => by simp at h
  | k :: ks, v :: vs, 0, y, _, h, _ => by
    have : k = y := Option.some.inj h
    show (if di k = di y then some v else find (di y) (dis ks) vs) = _
    rw [if_pos (by rw [this])]
    rfl
  | k :: ks, v :: vs, j + 1, y, hn, h, hl => by
    have hn' := List.nodup_cons.mp hn
    have hy : ks[j]? = some y := h
    show (if di k = di y then some v else find (di y) (dis ks) vs) = _
    rw [if_neg (by rw [di_inj]; exact fun e => hn'.1 (e ▸ List.mem_of_getElem? hy)), find_at hn'.2 hy (by simpa using hl)]
    rfl
theorem find_not : ∀ {ks : List Nat} {vs : List D} {y : Nat}, y ∉ ks → find (di y) (dis ks) vs = none
  | [], [], _, _ => rfl
  | [], _ :: _, _, _ => rfl
  | _ :: _, [], _, _ => rfl
  | k :: ks, v :: vs, y, h => by
    show (if di k = di y then some v else find (di y) (dis ks) vs) = _
    rw [if_neg (by rw [di_inj]; exact fun e => h (e ▸ List.mem_cons_self)), find_not fun hh => h (List.mem_cons_of_mem _ hh)]
theorem put_not {ks : List Nat} {vs : List D} {y : Nat} {v : D} (h : y ∉ ks) : put (di y) v (dis ks) vs = (dis (ks ++ [y]), vs ++ [v]) := by
  unfold put
  rw [if_neg fun e => h (mem_dis.mp e)]
  simp
theorem substs_map {α : Type} (g : Nat → Option D) {f h : α → D} : ∀ {xs : List α}, (∀ x ∈ xs, D.subst g (f x) = some (h x)) → D.substs g (xs.map f) = some (xs.map h)
  | [], _ => rfl
  | x :: xs, H => by
    simp only [List.map_cons, D.substs, H x List.mem_cons_self, substs_map g fun y hy => H y (List.mem_cons_of_mem _ hy), Option.bind_some, Option.map_some]
def h_parts_by : S :=
    (sSeq (sSet 1 (eDc []))
    (sSeq (sFor (iRange (e1 oLen (eVar 0))) (gN 2) (sIf (e2 oDIn (e2 oIx (eVar 0) (eVar 2)) (eVar 1)) (sExpr (m1 isL oAppend (e2 oDGet (eVar 1) (e2 oIx (eVar 0) (eVar 2))) (aCons (eVar 2) aNil))) (sPut putD (eVar 1) (e2 oIx (eVar 0) (eVar 2)) (eLc (lDisp (aCons (eVar 2) aNil))))))
    (sRet (eL (lVals (eVar 1))))))
abbrev sameM (mk : List Nat) (p q : Nat) : Prop := mk[p]? = mk[q]?
abbrev plc (mk : List Nat) (i key : Nat) : List Nat := (List.range i).filter fun p => decide (some key = mk[p]?)
theorem plc_succ {mk : List Nat} {i key y : Nat} (h : mk[i]? = some y) : plc mk (i + 1) key = if key = y then plc mk i key ++ [i] else plc mk i key := by
  unfold plc
  rw [List.range_succ, List.filter_append]
  by_cases e : key = y
  · rw [if_pos e]
    subst e
    simp [h]
  · rw [if_neg e]
    have : ¬ (some key = some y) := fun h => e (Option.some.inj h)
    simp [h, e]
theorem tail_at {cs : Cs} {c : Cell} {l : Cs} (j : Nat) : (cs ++ c :: l)[cs.length + 1 + j]? = l[j]? := by
  rw [List.getElem?_append_right (by omega), show cs.length + 1 + j - cs.length = j + 1 by omega]
  rfl
theorem head_at {cs : Cs} {c : Cell} {l : Cs} : (cs ++ c :: l)[cs.length]? = some c := by
  rw [List.getElem?_append_right (Nat.le_refl _), Nat.sub_self]
  rfl
theorem tail_set {cs : Cs} {c d : Cell} {l : Cs} (j : Nat) : (cs ++ c :: l).set (cs.length + 1 + j) d = cs ++ c :: l.set j d := by
  rw [List.set_append_right _ _ (by omega), show cs.length + 1 + j - cs.length = j + 1 by omega]
  rfl
theorem head_set {cs : Cs} {c d : Cell} {l : Cs} : (cs ++ c :: l).set cs.length d = cs ++ d :: l := by
  rw [List.set_append_right _ _ (Nat.le_refl _), Nat.sub_self]
  rfl
open Classical in
theorem parts_by_ok {cs : Cs} {mk : List Nat} (hn : mk.length < 1000000) :
    got (popped (fn 1 3 h_parts_by) [dl mk] cs) fun r => r = .v (dll (canon mk.length (sameM mk))) cs := by
  refine got_popped (got_fn rfl ?_)
  simp [h_parts_by, puts]
  refine ⟨by omega, got_for (fun i env cs' => ∃ (ks : List Nat) (y2 : Option D), env = [some (dl mk), some (.cell cs.length), y2] ∧
      cs' = cs ++ .dct (dis ks) ((List.range ks.length).map fun j => .cell (cs.length + 1 + j)) :: ks.map (fun key => Cell.lst (dis (plc mk i key))) ∧ ks.Nodup ∧ (∀ y, y ∈ ks ↔ ∃ p, p < i ∧ mk[p]? = some y) ∧
      ks.map some = ((List.range i).filter fun p => decide (∀ q, q < p → ¬ sameM mk q p)).map fun p => mk[p]?) ⟨[], none, rfl, rfl, List.nodup_nil, fun y => by simp, rfl⟩ (fun _ _ _ _ _ => rfl) (fun i x env cs' hx hI => ?_) fun env cs' hI => ?_⟩
  · obtain ⟨ks, y2, rfl, rfl, hk, hmem, hks⟩ := hI
    obtain ⟨hi, rfl⟩ := rng_at hx
    obtain ⟨y, hy⟩ : ∃ y, mk[i]? = some y := ⟨_, List.getElem?_eq_getElem hi⟩
    have q1 : atI (dis mk) (i : Int) = some (di y) := atI_nat (by rw [List.getElem?_map, hy]; rfl)
    have kl : ks.length ≤ i := by
      have := congrArg List.length hks
      rw [List.length_map, List.length_map] at this
      have h2 := List.length_filter_le (fun p => decide (∀ q, q < p → ¬ sameM mk q p)) (List.range i)
      rw [List.length_range] at h2
      omega
    have pl : ∀ key, (plc mk i key).length ≤ i := fun key => by
      have h2 := List.length_filter_le (fun p => decide (some key = mk[p]?)) (List.range i)
      rw [List.length_range] at h2
      exact h2
    have nomem : ∀ z, (∃ p, p < i + 1 ∧ mk[p]? = some z) ↔ z ∈ ks ∨ z = y := fun z => by
      rw [hmem]
      constructor
      · rintro ⟨p, hp, h⟩
        by_cases e : p = i
        · subst e
          rw [hy] at h
          exact .inr (Option.some.inj h).symm
        · exact .inl ⟨p, by omega, h⟩
      · rintro (⟨p, hp, h⟩ | h)
        · exact ⟨p, by omega, h⟩
        · exact ⟨i, by omega, h ▸ hy⟩
    by_cases hyk : y ∈ ks
    · obtain ⟨j, hj⟩ := List.getElem?_of_mem hyk
      have hjl := (List.getElem?_eq_some_iff.mp hj).1
      have fa := find_at (vs := (List.range ks.length).map fun j => D.cell (cs.length + 1 + j)) hk hj (by rw [List.length_map, List.length_range])
      rw [List.getElem?_map, List.getElem?_range hjl] at fa
      have fa2 : find (di y) (dis ks) ((List.range ks.length).map fun j => D.cell (cs.length + 1 + j)) = some (.cell (cs.length + 1 + j)) := fa
      simp [q1, head_at, tail_at, fa2, hj, tail_set]
      have := pl y
      refine ⟨by omega, ks, ⟨⟨rfl, rfl⟩, ?_⟩, hk, fun z => ?_, ?_⟩
      · refine List.ext_getElem? fun a => ?_
        rw [List.getElem?_set]
        split
        · rename_i e
          subst e
          rw [if_pos (by rw [List.length_map]; exact hjl), List.getElem?_map, hj]
          show _ = some (Cell.lst (dis (plc mk (i + 1) y)))
          rw [plc_succ hy, if_pos rfl]
          simp
        · rename_i e
          rw [List.getElem?_map, List.getElem?_map]
          cases ha : ks[a]? with
          | none => rfl
          | some w =>
            have : w ≠ y := fun h => by
              subst h
              exact e ((List.getElem?_inj hjl hk).mp (hj.trans ha.symm))
            show some (Cell.lst (dis (plc mk i w))) = some (Cell.lst (dis (plc mk (i + 1) w)))
            rw [plc_succ hy, if_neg this]
      · rw [nomem]
        exact ⟨.inl, fun h => h.elim id fun e => e ▸ hyk⟩
      · rw [hks, List.range_succ, List.filter_append, List.map_append]
        obtain ⟨p, hp, hpy⟩ := (hmem y).mp hyk
        have : ¬ (∀ q, q < i → ¬ sameM mk q i) := fun h => h p hp (by rw [sameM, hpy, hy])
        simp only [List.filter_cons, List.filter_nil]
        rw [if_neg (by rw [decide_eq_true_eq]; exact this)]
        simp
    · have fn := find_not (vs := (List.range ks.length).map fun j => D.cell (cs.length + 1 + j)) hyk
      have kp := put_not (vs := (List.range ks.length).map fun j => D.cell (cs.length + 1 + j)) (v := .cell (cs.length + 1 + ks.length)) hyk
      have no : ∀ q, q < i → ¬ sameM mk q i := fun q hq h => hyk ((hmem y).mpr ⟨q, hq, h.trans hy⟩)
      simp [q1, head_at, head_set, fn, show cs.length + (ks.length + 1) = cs.length + 1 + ks.length by omega, kp]
      refine ⟨by omega, ks ++ [y], ?_, ?_, fun z => ?_, ?_⟩
      · refine ⟨⟨by simp, by simp [List.range_succ]⟩, ?_⟩
        rw [List.map_append]
        congr 1
        · refine List.map_congr_left fun w hw => ?_
          rw [plc_succ hy, if_neg fun e : w = y => hyk (e ▸ hw)]
        · show _ = [Cell.lst (dis (plc mk (i + 1) y))]
          have : plc mk i y = [] := List.filter_eq_nil_iff.mpr fun p hp h => hyk ((hmem y).mpr ⟨p, List.mem_range.mp hp, (of_decide_eq_true h).symm⟩)
          rw [plc_succ hy, if_pos rfl, this]
          rfl
      · rw [List.nodup_append]
        refine ⟨hk, by simp, fun a ha b hb => ?_⟩
        rw [List.mem_singleton] at hb
        subst hb
        exact fun e => hyk (e ▸ ha)
      · rw [nomem]
        simp
      · rw [List.map_append, hks, List.range_succ, List.filter_append, List.map_append]
        simp only [List.filter_cons, List.filter_nil]
        rw [if_pos (by rw [decide_eq_true_eq]; exact no)]
        simp [hy]
  · obtain ⟨ks, y2, rfl, rfl, hk, hmem, hks⟩ := hI
    rw [rng_len] at *
    simp [head_at]
    refine ⟨_, _, ⟨rfl, rfl⟩, ?_⟩
    have e1 : canon mk.length (sameM mk) = ks.map (plc mk mk.length) := by
      have h2 : (ks.map some).map (fun o => (List.range mk.length).filter fun q => decide (o = mk[q]?)) = ks.map (plc mk mk.length) := by
        rw [List.map_map]
        rfl
      rw [← h2, hks, List.map_map]
      have h3 : canon mk.length (sameM mk) = ((List.range mk.length).filter fun p => decide (∀ q, q < p → ¬ sameM mk q p)).map (cls mk.length (sameM mk)) := by
        unfold canon canonTo
        congr 1
        exact List.filter_congr fun p _ => decide_eq_decide.mpr Iff.rfl
      rw [h3]
      refine List.map_congr_left fun p _ => ?_
      unfold cls
      refine List.filter_congr fun q _ => ?_
      exact decide_eq_decide.mpr Iff.rfl
    rw [e1]
    unfold frozen DEEP
    rw [show D.subst (look cs.length (cs ++ .dct (dis ks) ((List.range ks.length).map fun j => .cell (cs.length + 1 + j)) :: ks.map (fun key => Cell.lst (dis (plc mk mk.length key)))) 8) (.lst ((List.range ks.length).map fun j => .cell (cs.length + 1 + j))) = _ from
      congrArg (Option.map D.lst) (substs_map _ (h := fun j => dl (plc mk mk.length (ks.getD j 0))) fun j hj => ?_)]
    · rw [Option.map_some]
      congr 2
      refine List.ext_getElem? fun a => ?_
      rw [List.getElem?_map, List.getElem?_map, List.getElem?_map]
      by_cases ha : a < ks.length
      · rw [List.getElem?_range ha, List.getElem?_eq_getElem ha]
        show some (dl (plc mk mk.length (ks.getD a 0))) = some (dl (plc mk mk.length ks[a]))
        rw [List.getD_eq_getElem?_getD, List.getElem?_eq_getElem ha]
        rfl
      · rw [List.getElem?_eq_none (by rw [List.length_range]; omega), List.getElem?_eq_none (by omega)]
        rfl
    · have hj' := List.mem_range.mp hj
      show look _ _ (7 + 1) _ = _
      refine look_cell (by omega) ?_ (pures_dis _)
      rw [tail_at, List.getElem?_map, List.getElem?_eq_getElem hj', List.getD_eq_getElem?_getD, List.getElem?_eq_getElem hj']
      rfl
end Mi
end
section
set_option linter.all false
set_option maxHeartbeats 1000000
namespace Mi
open PySem
section
variable {g : G} {chk : Cs → Bool} {env : Env} {t e : E} {QL : R (List D) → Prop}
theorem got_lc_of {α : Type} (f h : α → D) {l : List α} {cs : Cs} (hc : chk cs = true) (hs : l.length ≤ 16777216)
    (step : ∀ x ∈ l, got (g (f x) env cs) fun env1 => got (t env1 cs) fun r => r = .v (.bl true) cs ∧ got (e env1 cs) fun r => r = .v (h x) cs)
    (fin : QL (.v (l.map h) cs)) : got (lcLoop env g t e chk (l.map f) [] cs) QL := by
  refine got_lc (fun i acc cs' => cs' = cs ∧ acc = (l.take i).map h) ⟨rfl, rfl⟩ (fun i acc cs' hI _ => by rw [hI.1]; exact hc) (fun i x acc cs' hx hI => ?_) fun acc cs' hI => ?_
  · obtain ⟨rfl, rfl⟩ := hI
    rw [List.getElem?_map] at hx
    obtain ⟨a, ha, rfl⟩ := Option.map_eq_some_iff.mp hx
    have hi : i < l.length := (List.getElem?_eq_some_iff.mp ha).1
    refine (step a (List.mem_of_getElem? ha)).mono fun env1 h1 => h1.mono fun r hr => ?_
    obtain ⟨rfl, h2⟩ := hr
    simp only [testK_bl, if_true]
    refine h2.mono fun r hr => ⟨h a, cs', hr, ?_, rfl, ?_⟩
    · rw [List.length_map, List.length_take, SIZE_eq]
      omega
    · rw [List.take_add_one, ha, List.map_append]
      rfl
  · obtain ⟨rfl, rfl⟩ := hI
    rw [List.length_map, List.take_length]
    exact fin
theorem got_lc_if {α : Type} (f h : α → D) (p : α → Bool) {l : List α} {cs : Cs} (hc : chk cs = true) (hs : l.length ≤ 16777216)
    (step : ∀ x ∈ l, got (g (f x) env cs) fun env1 => got (t env1 cs) fun r => r = .v (.bl (p x)) cs ∧ (p x = true → got (e env1 cs) fun r => r = .v (h x) cs))
    (fin : QL (.v ((l.filter p).map h) cs)) : got (lcLoop env g t e chk (l.map f) [] cs) QL := by
  refine got_lc (fun i acc cs' => cs' = cs ∧ acc = ((l.take i).filter p).map h) ⟨rfl, rfl⟩ (fun i acc cs' hI _ => by rw [hI.1]; exact hc) (fun i x acc cs' hx hI => ?_) fun acc cs' hI => ?_
  · obtain ⟨rfl, rfl⟩ := hI
    rw [List.getElem?_map] at hx
    obtain ⟨a, ha, rfl⟩ := Option.map_eq_some_iff.mp hx
    have hi : i < l.length := (List.getElem?_eq_some_iff.mp ha).1
    refine (step a (List.mem_of_getElem? ha)).mono fun env1 h1 => h1.mono fun r hr => ?_
    obtain ⟨rfl, h2⟩ := hr
    rw [testK_bl]
    by_cases hp : p a = true
    · rw [if_pos hp]
      refine (h2 hp).mono fun r hr => ⟨h a, cs', hr, ?_, rfl, ?_⟩
      · rw [List.length_map]
        have := List.length_filter_le p (l.take i)
        rw [List.length_take] at this
        rw [SIZE_eq]
        omega
      · rw [List.take_add_one, ha, List.filter_append, List.map_append]
        simp [hp]
    · rw [if_neg hp]
      refine ⟨rfl, ?_⟩
      rw [List.take_add_one, ha, List.filter_append]
      simp [hp]
  · obtain ⟨rfl, rfl⟩ := hI
    rw [List.length_map, List.take_length]
    exact fin
end
inductive Join (ms : List (List Nat)) (ps : List (Nat × Nat)) : Nat → Nat → Prop where
  | refl (x : Nat) : Join ms ps x x
  | pair {x y : Nat} : (x, y) ∈ ps → Join ms ps x y
  | symm {x y : Nat} : Join ms ps x y → Join ms ps y x
  | trans {x y z : Nat} : Join ms ps x y → Join ms ps y z → Join ms ps x z
  | mk {x y z w : Nat} {m : List Nat} : Join ms ps x y → m ∈ ms → m[x]? = some z → m[y]? = some w → Join ms ps z w
abbrev pr (p : Nat × Nat) : D := .tup [di p.1, di p.2]
def h_finest : S :=
    (sSeq (sSet 3 (eL (lRange (eVar 0))))
    (sSeq (sSet 4 (eLc (lList (eVar 2))))
    (sSeq (sSet 5 (eC (.int 0)))
    (sSeq (sWhile (e2 oLt (eVar 5) (e1 oLen (eVar 4))) (sSeq (sAsg (gT [(gN 6), (gN 7)]) (e2 oIx (eVar 4) (eVar 5)))
    (sSeq (sAug 5 oAdd (eC (.int 1)))
    (sSeq (sSet 8 (e2 oIx (eVar 3) (eVar 6)))
    (sSeq (sSet 9 (e2 oIx (eVar 3) (eVar 7)))
    (sIf (e2 oNeS (eVar 8) (eVar 9)) (sSeq (sSet 3 (eL (lComp [10] (iLst (eVar 3)) (gN 10) eYes (eIf (e2 oEqS (eVar 10) (eVar 9)) (eVar 8) (eVar 10)))))
    (sExpr (m1 isL oExtend (eVar 4) (aCons (eL (lComp [11] (iLst (eVar 1)) (gN 11) eYes (eTup (aCons (e2 oIx (eVar 11) (eVar 6)) (aCons (e2 oIx (eVar 11) (eVar 7)) aNil))))) aNil)))) sNext))))))
    (sRet (call (popped (fn 1 3 h_parts_by)) (aCons (eVar 3) aNil)))))))
theorem one_at {cs : Cs} {a : Cell} : (cs ++ [a])[cs.length]? = some a := head_at
theorem one_set {cs : Cs} {a b : Cell} : (cs ++ [a]).set cs.length b = cs ++ [b] := head_set
abbrev pres (n : Nat) (mk : List Nat) : List Nat := (List.range n).filter fun v => decide (v ∈ mk)
theorem pres_merge {n : Nat} {mk : List Nat} {k g : Nat} (hg : g ∈ mk) (hgn : g < n) (hk : k ∈ mk) (hkg : k ≠ g) : (pres n (mk.map fun v => if v = g then k else v)).length + 1 ≤ (pres n mk).length := by
  have := nodup_sub (l := g :: pres n (mk.map fun v => if v = g then k else v)) (l2 := pres n mk) (List.nodup_cons.mpr ⟨fun h => ?_, List.nodup_range.filter _⟩) fun x hx => ?_
  · simpa using this
  · have h2 := of_decide_eq_true (List.mem_filter.mp h).2
    obtain ⟨v, hv, e⟩ := List.mem_map.mp h2
    by_cases hvg : v = g
    · rw [if_pos hvg] at e
      exact hkg e
    · rw [if_neg hvg] at e
      exact hvg e
  · rcases List.mem_cons.mp hx with rfl | hx
    · exact List.mem_filter.mpr ⟨List.mem_range.mpr hgn, decide_eq_true hg⟩
    · have h1 := List.mem_filter.mp hx
      obtain ⟨v, hv, e⟩ := List.mem_map.mp (of_decide_eq_true h1.2)
      refine List.mem_filter.mpr ⟨h1.1, decide_eq_true ?_⟩
      by_cases hvg : v = g
      · rw [if_pos hvg] at e
        exact e ▸ hk
      · rw [if_neg hvg] at e
        exact e ▸ hv
structure FinI (n : Nat) (ms : List (List Nat)) (ps : List (Nat × Nat)) (mk : List Nat) (ts : List (Nat × Nat)) (a : Nat) : Prop where
  len : mk.length = n
  mlt : ∀ v ∈ mk, v < n
  tlt : ∀ p ∈ ts, p.1 < n ∧ p.2 < n
  pre : ∀ p ∈ ps, p ∈ ts
  done : ∀ (j : Nat) p, j < a → ts[j]? = some p → sameM mk p.1 p.2
  joined : ∀ p ∈ ts, Join ms ps p.1 p.2
  gen : ∃ G : List (Nat × Nat), (∀ p ∈ G, p.1 < n ∧ p.2 < n ∧ Join ms ps p.1 p.2) ∧ (∀ p ∈ G, ∀ m ∈ ms, ∀ z w, m[p.1]? = some z → m[p.2]? = some w → (z, w) ∈ ts) ∧
    ∀ T : Nat → Nat → Prop, (∀ x, T x x) → (∀ x y, T x y → T y x) → (∀ x y z, T x y → T y z → T x z) → (∀ p ∈ G, T p.1 p.2) → ∀ x y, x < n → y < n → sameM mk x y → T x y
  size : ts.length + (pres n mk).length * ms.length ≤ ps.length + n * ms.length
theorem FinI.end_ {n : Nat} {ms : List (List Nat)} {ps : List (Nat × Nat)} {mk : List Nat} {ts : List (Nat × Nat)} (h : FinI n ms ps mk ts ts.length) (hm : ∀ m ∈ ms, Mk n m) (x y : Nat) (hx : x < n) (hy : y < n) : sameM mk x y ↔ Join ms ps x y := by
  have all : ∀ p ∈ ts, sameM mk p.1 p.2 := fun p hp => by
    obtain ⟨j, hj⟩ := List.getElem?_of_mem hp
    exact h.done j p (List.getElem?_eq_some_iff.mp hj).1 hj
  obtain ⟨G, h1, h2, h3⟩ := h.gen
  constructor
  · exact h3 _ (fun x => .refl x) (fun _ _ => .symm) (fun _ _ _ => .trans) (fun p hp => (h1 p hp).2.2) x y hx hy
  · intro hj
    clear hx hy
    induction hj with
    | refl x => rfl
    | pair hp => exact all _ (h.pre _ hp)
    | symm _ ih => exact Eq.symm ih
    | trans _ _ ih1 ih2 => exact Eq.trans ih1 ih2
    | @mk x y z w m hxy hmm e1 e2 ih =>
      have hmn := hm m hmm
      have hl : m.length = n := by rw [hmn.length_eq, List.length_range]
      have hx : x < n := by rw [← hl]; exact (List.getElem?_eq_some_iff.mp e1).1
      have hy : y < n := by rw [← hl]; exact (List.getElem?_eq_some_iff.mp e2).1
      have := h3 (fun u v => ∀ m ∈ ms, (m[u]?.bind (mk[·]?)) = (m[v]?.bind (mk[·]?))) (fun _ _ _ => rfl) (fun _ _ h m hm => (h m hm).symm) (fun _ _ _ h h' m hm => (h m hm).trans (h' m hm)) (fun p hp m hm' => by
        have hpt := h1 p hp
        have hmn := hm m hm'
        obtain ⟨z, hz, _⟩ := hmn.at_ hpt.1
        obtain ⟨w, hw, _⟩ := hmn.at_ hpt.2.1
        rw [hz, hw]
        exact all _ (h2 p hp m hm' z w hz hw)) x y hx hy ih m hmm
      rw [e1, e2] at this
      exact this
theorem FinI.start {n : Nat} {ms : List (List Nat)} {ps : List (Nat × Nat)} (hp : ∀ p ∈ ps, p.1 < n ∧ p.2 < n) : FinI n ms ps (List.range n) ps 0 where
  len := List.length_range
  mlt := fun v hv => List.mem_range.mp hv
  tlt := hp
  pre := fun _ h => h
  done := fun j _ h => absurd h (Nat.not_lt_zero _)
  joined := fun p hp => .pair (by exact hp)
  gen := ⟨[], fun p h => absurd h List.not_mem_nil, fun p h => absurd h List.not_mem_nil, fun T hr _ _ _ x y hx hy e => by
    rw [sameM, List.getElem?_range hx, List.getElem?_range hy] at e
    rw [Option.some.inj e]
    exact hr y⟩
  size := by
    have : (pres n (List.range n)).length ≤ n := by
      have := List.length_filter_le (fun v => decide (v ∈ List.range n)) (List.range n)
      rwa [List.length_range] at this
    exact Nat.add_le_add_left (Nat.mul_le_mul_right _ this) _
theorem FinI.skip {n : Nat} {ms : List (List Nat)} {ps : List (Nat × Nat)} {mk : List Nat} {ts : List (Nat × Nat)} {a : Nat} {p : Nat × Nat} (h : FinI n ms ps mk ts a) (hp : ts[a]? = some p) (e : sameM mk p.1 p.2) : FinI n ms ps mk ts (a + 1) :=
  ⟨h.len, h.mlt, h.tlt, h.pre, fun j q hj hq => by
    by_cases ej : j = a
    · subst ej
      rw [hp] at hq
      cases hq
      exact e
    · exact h.done j q (by omega) hq, h.joined, h.gen, h.size⟩
theorem map_at {mk : List Nat} {f : Nat → Nat} {x : Nat} : (mk.map f)[x]? = (mk[x]?).map f := List.getElem?_map ..
theorem FinI.merge {n : Nat} {ms : List (List Nat)} {ps : List (Nat × Nat)} {mk : List Nat} {ts : List (Nat × Nat)} {a k g : Nat} {p : Nat × Nat} (h : FinI n ms ps mk ts a) (hm : ∀ m ∈ ms, Mk n m) (hp : ts[a]? = some p)
    (e1 : mk[p.1]? = some k) (e2 : mk[p.2]? = some g) (hkg : k ≠ g) : FinI n ms ps (mk.map fun v => if v = g then k else v) (ts ++ ms.map fun m => (m.getD p.1 0, m.getD p.2 0)) (a + 1) := by
  have hpt := List.mem_of_getElem? hp
  have hlt := h.tlt p hpt
  have hk := List.mem_of_getElem? e1
  have hg := List.mem_of_getElem? e2
  have gd : ∀ m ∈ ms, ∀ x, x < n → m[x]? = some (m.getD x 0) := fun m hm' x hx => by
    obtain ⟨z, hz, _⟩ := (hm m hm').at_ hx
    rw [List.getD_eq_getElem?_getD, hz]
    rfl
  obtain ⟨G, g1, g2, g3⟩ := h.gen
  refine ⟨by rw [List.length_map]; exact h.len, fun v hv => ?_, fun q hq => ?_, fun q hq => List.mem_append_left _ (h.pre q hq), fun j q hj hq => ?_, fun q hq => ?_, ⟨p :: G, fun q hq => ?_, fun q hq m hm' z w hz hw => ?_, fun T hr hs ht hG x y hx hy e => ?_⟩, ?_⟩
  · obtain ⟨u, hu, rfl⟩ := List.mem_map.mp hv
    split
    · exact h.mlt k hk
    · exact h.mlt u hu
  · rcases List.mem_append.mp hq with hq | hq
    · exact h.tlt q hq
    · obtain ⟨m, hm', rfl⟩ := List.mem_map.mp hq
      exact ⟨(hm m hm').lt (gd m hm' _ hlt.1), (hm m hm').lt (gd m hm' _ hlt.2)⟩
  · have ha := (List.getElem?_eq_some_iff.mp hp).1
    rw [List.getElem?_append_left (by omega)] at hq
    show (mk.map _)[q.1]? = (mk.map _)[q.2]?
    rw [map_at, map_at]
    by_cases ej : j = a
    · subst ej
      rw [hp] at hq
      cases hq
      rw [e1, e2]
      simp [hkg]
    · rw [show mk[q.1]? = mk[q.2]? from h.done j q (by omega) hq]
  · rcases List.mem_append.mp hq with hq | hq
    · exact h.joined q hq
    · obtain ⟨m, hm', rfl⟩ := List.mem_map.mp hq
      exact .mk (h.joined p hpt) hm' (gd m hm' _ hlt.1) (gd m hm' _ hlt.2)
  · rcases List.mem_cons.mp hq with rfl | hq
    · exact ⟨hlt.1, hlt.2, h.joined _ hpt⟩
    · exact g1 q hq
  · rcases List.mem_cons.mp hq with rfl | hq
    · refine List.mem_append_right _ (List.mem_map.mpr ⟨m, hm', ?_⟩)
      rw [List.getD_eq_getElem?_getD, List.getD_eq_getElem?_getD, hz, hw]
      rfl
    · exact List.mem_append_left _ (g2 q hq m hm' z w hz hw)
  · have old := g3 T hr hs ht fun q hq => hG q (List.mem_cons_of_mem _ hq)
    have tp := hG p List.mem_cons_self
    obtain ⟨u, hu⟩ : ∃ u, mk[x]? = some u := ⟨_, List.getElem?_eq_getElem (by rw [h.len]; exact hx)⟩
    obtain ⟨v, hv⟩ : ∃ v, mk[y]? = some v := ⟨_, List.getElem?_eq_getElem (by rw [h.len]; exact hy)⟩
    rw [sameM, map_at, map_at, hu, hv] at e
    have e' : (if u = g then k else u) = if v = g then k else v := Option.some.inj e
    have xk : ∀ z w, z < n → mk[z]? = some w → w = k → T z p.1 := fun z w hz e3 e4 => old z p.1 hz hlt.1 (by rw [sameM, e3, e1, e4])
    have xg : ∀ z w, z < n → mk[z]? = some w → w = g → T z p.2 := fun z w hz e3 e4 => old z p.2 hz hlt.2 (by rw [sameM, e3, e2, e4])
    by_cases hu' : u = g
    · by_cases hv' : v = g
      · exact ht _ _ _ (xg x u hx hu hu') (hs _ _ (xg y v hy hv hv'))
      · rw [if_pos hu', if_neg hv'] at e'
        exact ht _ _ _ (ht _ _ _ (xg x u hx hu hu') (hs _ _ tp)) (hs _ _ (xk y v hy hv e'.symm))
    · by_cases hv' : v = g
      · rw [if_neg hu', if_pos hv'] at e'
        exact ht _ _ _ (ht _ _ _ (xk x u hx hu e') tp) (hs _ _ (xg y v hy hv hv'))
      · rw [if_neg hu', if_neg hv'] at e'
        exact old x y hx hy (by rw [sameM, hu, hv, e'])
  · have := pres_merge hg (h.mlt g hg) hk hkg
    have hz := h.size
    rw [List.length_append, List.length_map]
    have : ((pres n (mk.map fun v => if v = g then k else v)).length + 1) * ms.length ≤ (pres n mk).length * ms.length := Nat.mul_le_mul_right _ this
    rw [Nat.add_mul, Nat.one_mul] at this
    omega
theorem pairs_pure (ts : List (Nat × Nat)) : D.pures (ts.map pr) = true := D.pures_iff.mpr fun x hx => by
  obtain ⟨n, _, rfl⟩ := List.mem_map.mp hx
  rfl
open Classical in
theorem finest_ok {cs : Cs} {ms : List (List Nat)} {ps : List (Nat × Nat)} {n : Nat} (hm : ∀ m ∈ ms, Mk n m) (hn : n < 1000000) (hp : ∀ p ∈ ps, p.1 < n ∧ p.2 < n) (hz : ps.length + n * ms.length < 1000000) (hml : ms.length < 1000000) :
    got (popped (fn 3 12 h_finest) [di n, .lst (ms.map tp), .lst (ps.map pr)] cs) fun r => r = .v (dll (canon n (Join ms ps))) cs := by
  refine got_popped (got_fn rfl ?_)
  simp [h_finest, rng_nat]
  refine ⟨by omega, got_while (fun k env cs' => ∃ (mk : List Nat) (ts : List (Nat × Nat)) (a : Nat) (y6 y7 y8 y9 y10 y11 : Option D), env = [some (di n), some (.lst (ms.map tp)), some (.lst (ps.map pr)), some (dl mk), some (.cell cs.length), some (di a), y6, y7, y8, y9, y10, y11] ∧
      cs' = cs ++ [.lst (ts.map pr)] ∧ FinI n ms ps mk ts a ∧ a ≤ ts.length ∧ k + a = ps.length + n * ms.length) (ps.length + n * ms.length) ?_ ⟨List.range n, ps, 0, none, none, none, none, none, none, rfl, rfl, .start hp, Nat.zero_le _, by omega⟩ ?_⟩
  · unfold FUEL
    omega
  · rintro k env cs' ⟨mk, ts, a, y6, y7, y8, y9, y10, y11, rfl, rfl, hF, ha, hk⟩
    have hsz := hF.size
    have htl : ts.length ≤ ps.length + n * ms.length := by omega
    by_cases hlt : a < ts.length
    · obtain ⟨p, hpa⟩ : ∃ p, ts[a]? = some p := ⟨_, List.getElem?_eq_getElem hlt⟩
      have hpl := hF.tlt p (List.mem_of_getElem? hpa)
      obtain ⟨u, hu⟩ : ∃ u, mk[p.1]? = some u := ⟨_, List.getElem?_eq_getElem (by rw [hF.len]; exact hpl.1)⟩
      obtain ⟨v, hv⟩ : ∃ v, mk[p.2]? = some v := ⟨_, List.getElem?_eq_getElem (by rw [hF.len]; exact hpl.2)⟩
      have q0 : atI (ts.map pr) (a : Int) = some (pr p) := atI_nat (by rw [List.getElem?_map, hpa]; rfl)
      have q1 : atI (dis mk) (p.1 : Int) = some (di u) := atI_nat (by rw [List.getElem?_map, hu]; rfl)
      have q2 : atI (dis mk) (p.2 : Int) = some (di v) := atI_nat (by rw [List.getElem?_map, hv]; rfl)
      by_cases huv : u = v
      · simp [one_at, hlt, q0, q1, q2, huv]
        refine ⟨k - 1, by omega, mk, ts, a + 1, ⟨rfl, by simp⟩, rfl, hF.skip hpa (by rw [sameM, hu, hv, huv]), by omega, by omega⟩
      · have hui : ¬ ((u : Int) = (v : Int)) := by omega
        have hl1 := hF.len
        simp [one_at, hlt, q0, q1, q2, hui, wipe]
        refine got_lc_of di (fun w => di (if w = v then u else w)) rfl (by omega) (fun w hw => ?_) ?_
        · by_cases e : w = v
          · simp [eYes, e]
          · have : ¬ ((w : Int) = (v : Int)) := by omega
            simp [eYes, e, this]
        · simp [one_at, wipe]
          refine got_lc_of tp (fun m => pr (m.getD p.1 0, m.getD p.2 0)) rfl (by omega) (fun m hmm => ?_) ?_
          · have gd : ∀ x, x < n → m[x]? = some (m.getD x 0) := fun x hx => by
              obtain ⟨z, hz, _⟩ := (hm m hmm).at_ hx
              rw [List.getD_eq_getElem?_getD, hz]
              rfl
            have r1 : atI (dis m) (p.1 : Int) = some (di (m.getD p.1 0)) := atI_nat (by rw [List.getElem?_map, gd _ hpl.1]; rfl)
            have r2 : atI (dis m) (p.2 : Int) = some (di (m.getD p.2 0)) := atI_nat (by rw [List.getElem?_map, gd _ hpl.2]; rfl)
            simp [eYes, r1, r2, -List.getD_eq_getElem?_getD]
          · have M := hF.merge hm hpa hu hv huv
            have ms1 := M.size
            rw [List.length_append, List.length_map] at ms1
            simp [one_at, one_set, -List.getD_eq_getElem?_getD]
            refine ⟨by omega, k - 1, by omega, _, _, a + 1, ⟨?_, by simp⟩, ?_, M, by rw [List.length_append, List.length_map]; omega, by omega⟩
            · rw [dis, List.map_map]
              rfl
            · rw [List.map_append, List.map_map]
              rfl
    · have : a = ts.length := by omega
      subst this
      simp [one_at]
      refine (parts_by_ok (by rw [hF.len]; exact hn)).mono fun r hr => ?_
      subst hr
      simp
      refine ⟨_, _, ⟨rfl, rfl⟩, ?_⟩
      rw [hF.len, canon_congr (R := sameM mk) (R' := Join ms ps) fun x y hx hy => hF.end_ hm x y hx hy]
      exact frozen_pure (D.pures_iff.mpr fun d hd => by
        obtain ⟨g, _, rfl⟩ := List.mem_map.mp hd
        exact pures_dis g)
end Mi
end
section
set_option linter.all false
set_option maxHeartbeats 1000000
namespace k29
open PySem Mi
@[simp] theorem e_take : f__law_take = fn 2 3 h_take := rfl
@[simp] theorem e_turning : f__law_turning = fn 2 4 h_turning := rfl
@[simp] theorem e_pick : f__law_pick = fn 2 2 h_pick := rfl
@[simp] theorem e_rings : f_rings_of = fn 2 7 h_rings_of := rfl
@[simp] theorem e_finest : f_finest = fn 3 12 h_finest := rfl
def sw (a b x : Nat) : Nat := if x = b then a else if x = a then b else x
abbrev exch (n a b : Nat) : List Nat := (List.range n).map (sw a b)
theorem sw_sw (a b x : Nat) : sw a b (sw a b x) = x := by
  unfold sw
  by_cases h1 : x = b
  · by_cases h2 : a = b <;> simp [h1, h2]
  · by_cases h2 : x = a <;> simp [h1, h2]
theorem sw_lt {n a b x : Nat} (ha : a < n) (hb : b < n) (hx : x < n) : sw a b x < n := by
  unfold sw
  split
  · exact ha
  · split
    · exact hb
    · exact hx
theorem exch_at {n a b x : Nat} (hx : x < n) : (exch n a b)[x]? = some (sw a b x) := by
  rw [List.getElem?_map, List.getElem?_range hx]
  rfl
theorem exch_set {n a b : Nat} (ha : a < n) (hb : b < n) : ((List.range n).set a b).set b a = exch n a b := by
  refine List.ext_getElem? fun x => ?_
  rw [List.getElem?_set, List.getElem?_set, List.length_set, List.length_range]
  by_cases hx : x < n
  · rw [exch_at hx, List.getElem?_range hx]
    unfold sw
    by_cases h1 : b = x
    · subst h1
      simp [hb]
    · have h1' : ¬ x = b := fun e => h1 e.symm
      by_cases h2 : a = x
      · subst h2
        simp [h1, h1', hx]
      · have h2' : ¬ x = a := fun e => h2 e.symm
        simp [h1, h2, h1', h2']
  · have h1 : ¬ b = x := by omega
    have h2 : ¬ a = x := by omega
    rw [if_neg h1, if_neg h2, List.getElem?_eq_none (by rw [List.length_range]; omega), List.getElem?_eq_none (by rw [List.length_map, List.length_range]; omega)]
theorem exch_mk {n a b : Nat} (ha : a < n) (hb : b < n) : Mk n (exch n a b) := by
  have nd : (exch n a b).Nodup := by
    rw [List.Nodup, List.pairwise_map]
    refine (List.nodup_range (n := n)).imp fun {x y} h e => h ?_
    rw [← sw_sw a b x, e, sw_sw]
  refine (List.perm_ext_iff_of_nodup nd List.nodup_range).mpr fun x => ⟨fun hx => ?_, fun hx => ?_⟩
  · obtain ⟨y, hy, rfl⟩ := List.mem_map.mp hx
    exact List.mem_range.mpr (sw_lt ha hb (List.mem_range.mp hy))
  · have hx' := List.mem_range.mp hx
    exact List.mem_map.mpr ⟨sw a b x, List.mem_range.mpr (sw_lt ha hb hx'), sw_sw a b x⟩
theorem exchange_ok {cs : Cs} {n a b : Nat} (ha : a < n) (hb : b < n) (hn : n < 1000000) :
    got (popped f__law_exchange [di a, di b, di n] cs) fun r => r = .v (tp (exch n a b)) cs := by
  refine got_popped (got_fn rfl ?_)
  have i1 : ∀ l : List D, l.length = n → ixN l.length (a : Int) = some a := fun l h => ixN_nat (by omega)
  have i2 : ∀ l : List D, l.length = n → ixN l.length (b : Int) = some b := fun l h => ixN_nat (by omega)
  have l0 : (dis (List.range n)).length = n := by rw [List.length_map, List.length_range]
  simp [b__law_exchange, rng_nat, one_at, one_set]
  refine ⟨by omega, ?_⟩
  rw [ixN_nat ha, ixN_nat hb]
  simp [one_at, one_set]
  refine ⟨_, _, ⟨rfl, rfl⟩, ?_⟩
  rw [show (List.map di (List.range n)).set a (di b) = dis ((List.range n).set a b) from List.map_set.symm, show (dis ((List.range n).set a b)).set b (di a) = dis (((List.range n).set a b).set b a) from List.map_set.symm, exch_set ha hb]
  exact frozen_pure (pures_dis _)
theorem fit_dll (ls : List (List Nat)) : (dll ls).fit = true := fit_list fun x hx => by
  obtain ⟨l, _, rfl⟩ := List.mem_map.mp hx
  have := fit_dl l
  simp only [D.fit, Bool.and_eq_true, decide_eq_true_eq] at this
  refine ⟨this.1, ?_⟩
  simp [D.depth, depth_dis]
theorem pure_dll (ls : List (List Nat)) : (dll ls).pure = true := D.pures_iff.mpr fun d hd => by
  obtain ⟨g, _, rfl⟩ := List.mem_map.mp hd
  exact pures_dis g
theorem oNe_same {cs : Cs} {d : D} (hp : d.pure = true) (hf : d.fit = true) : oNe cs d d = some (.bl false) := by
  unfold oNe
  rw [frozen_pure hp]
  simp [hf]
theorem oEq_same {cs : Cs} {d : D} (hp : d.pure = true) (hf : d.fit = true) : oEq cs d d = some (.bl true) := by
  unfold oEq
  rw [frozen_pure hp]
  simp [hf]
@[simp] theorem isa_ll {cs : Cs} {xs : List D} : oIsa .list cs (.lst xs) = some (.bl true) := rfl
@[simp] theorem isa_ii {cs : Cs} {i : Int} : oIsa .int cs (.int i) = some (.bl true) := rfl
@[simp] theorem isa_bi {cs : Cs} {i : Int} : oIsa .bool cs (.int i) = some (.bl false) := rfl
theorem boolsOf_map {α : Type} (p : α → Bool) : ∀ l : List α, boolsOf (l.map fun x => D.bl (p x)) = some (l.map p)
  | [] => rfl
  | x :: r => by
    show (boolsOf (r.map fun x => D.bl (p x))).map (p x :: ·) = _
    rw [boolsOf_map p r]
    rfl
theorem alike_ok {cs : Cs} {ls : List (List Nat)} (hl : ∀ l ∈ ls, l.length < 1000000) :
    got (popped f__law_alike [dll ls, dll ls] cs) fun r => r = .v (.bl true) cs := by
  refine got_popped (got_fn rfl ?_)
  simp [b__law_alike, oNe_same (pure_dll ls) (fit_dll ls)]
  refine got_for (fun i env cs' => ∃ y2 y3 : Option D, env = [some (dll ls), some (dll ls), y2, y3] ∧ cs' = cs) ⟨none, none, rfl, rfl⟩ (fun _ _ _ _ _ => rfl) (fun i x env cs' hx hI => ?_) fun env cs' hI => ?_
  · obtain ⟨y2, y3, rfl, rfl⟩ := hI
    rw [List.getElem?_map] at hx
    obtain ⟨l, hli, rfl⟩ := Option.map_eq_some_iff.mp hx
    have hll := hl l (List.mem_of_getElem? hli)
    simp [wipe]
    refine got_lc_of di (fun _ => .bl ((fun _ => true) ())) rfl (by omega) (fun w hw => ?_) ?_
    · simp [eYes]
    · simp [boolsOf_map (fun _ : Nat => true)]
  · obtain ⟨y2, y3, rfl, rfl⟩ := hI
    simp
    exact ⟨_, [], ⟨rfl, rfl⟩, frozen_pure rfl⟩
end k29
end
section
set_option linter.all false
set_option maxHeartbeats 1000000
namespace k29
open PySem Mi
def insN (i : Nat) : List Nat → List Nat
  | [] => [i]
  | j :: r => if i < j then i :: j :: r else if i = j then j :: r else j :: insN i r
def sortN (ns : List Nat) : List Nat := ns.foldr insN []
theorem insS_nat (i : Nat) : ∀ l : List Nat, insS (i : Int) (l.map fun n : Nat => (n : Int)) = (insN i l).map fun n : Nat => (n : Int)
  | [] => rfl
  | j :: r => by
    show (if (i : Int) < (j : Int) then _ else if (i : Int) = (j : Int) then _ else _) = List.map (fun n : Nat => (n : Int)) (if i < j then _ else if i = j then _ else _)
    by_cases h : i < j
    · rw [if_pos h, if_pos (by omega)]
      rfl
    · rw [if_neg h, if_neg (by omega)]
      by_cases e : i = j
      · rw [if_pos e, if_pos (by omega)]
        rfl
      · rw [if_neg e, if_neg (by omega), insS_nat i r]
        rfl
theorem sortS_nat : ∀ l : List Nat, sortS (l.map fun n : Nat => (n : Int)) = (sortN l).map fun n : Nat => (n : Int)
  | [] => rfl
  | x :: r => by
    show insS (x : Int) (sortS (r.map fun n : Nat => (n : Int))) = _
    rw [sortS_nat r, insS_nat]
    rfl
theorem insN_mem {i x : Nat} : ∀ {l : List Nat}, x ∈ insN i l ↔ x = i ∨ x ∈ l
  | [] => by simp [insN]
  | j :: r => by
    unfold insN
    by_cases h : i < j
    · rw [if_pos h]
      simp
    · rw [if_neg h]
      by_cases e : i = j
      · rw [if_pos e]
        subst e
        simp
      · rw [if_neg e, List.mem_cons, insN_mem, List.mem_cons]
        constructor <;> (rintro (h | h | h) <;> simp [h])
theorem insN_rise {i : Nat} : ∀ {l : List Nat}, l.Pairwise (· < ·) → (insN i l).Pairwise (· < ·)
  | [], _ => by simp [insN]
  | j :: r, h => by
    have h' := List.pairwise_cons.mp h
    unfold insN
    by_cases hij : i < j
    · rw [if_pos hij]
      refine List.pairwise_cons.mpr ⟨fun y hy => ?_, h⟩
      rcases List.mem_cons.mp hy with rfl | hy
      · exact hij
      · exact Nat.lt_trans hij (h'.1 y hy)
    · rw [if_neg hij]
      by_cases e : i = j
      · rw [if_pos e]
        exact h
      · rw [if_neg e]
        refine List.pairwise_cons.mpr ⟨fun y hy => ?_, insN_rise h'.2⟩
        rcases insN_mem.mp hy with rfl | hy
        · omega
        · exact h'.1 y hy
theorem sortN_rise : ∀ l : List Nat, (sortN l).Pairwise (· < ·)
  | [] => List.Pairwise.nil
  | x :: r => insN_rise (sortN_rise r)
theorem sortN_mem {x : Nat} : ∀ {l : List Nat}, x ∈ sortN l ↔ x ∈ l
  | [] => Iff.rfl
  | y :: r => by
    show x ∈ insN y (sortN r) ↔ _
    rw [insN_mem, sortN_mem, List.mem_cons]
theorem intsOf_dis : ∀ l : List Nat, intsOf (dis l) = some (l.map fun n : Nat => (n : Int))
  | [] => rfl
  | x :: r => by
    show (intsOf (dis r)).map ((x : Int) :: ·) = _
    rw [intsOf_dis r]
    rfl
def segs {α : Type} (xs : List α) : List Nat → List (List α)
  | a :: b :: r => (xs.drop a).take (b - a) :: segs xs (b :: r)
  | _ => []
theorem segs_at {α : Type} (xs : List α) : ∀ (s : List Nat) (k : Nat) (a b : Nat), s[k]? = some a → s[k + 1]? = some b → (segs xs s)[k]? = some ((xs.drop a).take (b - a))
  | [], _, _, _, h, _ => by simp at h
  | [_], 0, _, _, _, h => by simp at h
  | [_], k + 1, _, _, h, _ => by simp at h
  | x :: y :: r, 0, a, b, h, h2 => by
    have e1 : x = a := Option.some.inj h
    have e2 : y = b := Option.some.inj h2
    subst e1
    subst e2
    rfl
  | x :: y :: r, k + 1, a, b, h, h2 => segs_at xs (y :: r) k a b h h2
theorem segs_len {α : Type} (xs : List α) : ∀ s : List Nat, (segs xs s).length = s.length - 1
  | [] => rfl
  | [_] => rfl
  | _ :: y :: r => by
    show (segs xs (y :: r)).length + 1 = _
    rw [segs_len xs (y :: r)]
    rfl
theorem segs_ne {α : Type} (xs : List α) : ∀ s : List Nat, s.Pairwise (· < ·) → (∀ x ∈ s, x ≤ xs.length) → ∀ r ∈ segs xs s, r ≠ []
  | [], _, _, _, h => absurd h List.not_mem_nil
  | [_], _, _, _, h => absurd h List.not_mem_nil
  | a :: b :: s, hp, hl, r, h => by
    have h' := List.pairwise_cons.mp hp
    rcases List.mem_cons.mp h with rfl | h
    · have hab := h'.1 b List.mem_cons_self
      have hb := hl b (List.mem_cons_of_mem _ List.mem_cons_self)
      intro e
      have := congrArg List.length e
      rw [List.length_take, List.length_drop, List.length_nil] at this
      omega
    · exact segs_ne xs (b :: s) h'.2 (fun x hx => hl x (List.mem_cons_of_mem _ hx)) r h
theorem segs_flat {α : Type} (xs : List α) : ∀ (s : List Nat) (a : Nat), (a :: s).Pairwise (· < ·) → (∃ z, (a :: s).getLast? = some z ∧ xs.length ≤ z) → (segs xs (a :: s)).flatten = xs.drop a
  | [], a, _, ⟨z, hz, hl⟩ => by
    have : a = z := Option.some.inj hz
    subst this
    rw [List.drop_of_length_le hl]
    rfl
  | b :: s, a, hp, ⟨z, hz, hl⟩ => by
    have h' := List.pairwise_cons.mp hp
    have ih := segs_flat xs s b h'.2 ⟨z, by rw [List.getLast?_cons_cons] at hz; exact hz, hl⟩
    show (xs.drop a).take (b - a) ++ (segs xs (b :: s)).flatten = _
    rw [ih]
    have hab := h'.1 b List.mem_cons_self
    rw [show xs.drop b = (xs.drop a).drop (b - a) by rw [List.drop_drop]; congr 1; omega]
    exact List.take_append_drop _ _
theorem cut_nat {α : Type} {xs : List α} {a b : Nat} (ha : a ≤ b) (hb : b ≤ xs.length) : cut xs (some (a : Int)) (some (b : Int)) = (xs.drop a).take (b - a) := by
  unfold cut sIx
  simp
  have h1 : ¬ ((a : Int) < 0) := by omega
  have h2 : ¬ ((b : Int) < 0) := by omega
  simp [h1, h2, Nat.min_eq_left hb, Nat.min_eq_left (Nat.le_trans ha hb)]
theorem rows_ok {cs cs0 own : Cs} {k t n : Nat} (h : Hs cs0 k t own cs) (hn0 : 0 < n) (hn : n < 1000000) (ht : t + n + 20 < 2 ^ 64) :
    got (popped f__law_rows [.cell k, di n] cs) fun r => ∃ (rows : List (List Nat)) (cs2 : Cs), r = .v (dll rows) cs2 ∧ (∀ r ∈ rows, r ≠ []) ∧ rows.flatten.Perm (List.range n) ∧ Hs cs0 k (t + n + 20) own cs2 := by
  refine got_poppedH (k := k) (t := t + n + 20) (got_fn rfl ?_)
  simp [b__law_rows]
  refine (turning_ok h.refl hn (by omega)).mono fun r hr => ?_
  obtain ⟨p, cs1, rfl, hp, h1⟩ := hr
  have P := h1.push (.lst [.int 0, di n])
  have L := h1.len
  simp
  refine (take_ok P (m := 6) (by omega) (by omega) (by omega)).mono fun r hr => ?_
  obtain ⟨d, cs2, rfl, hd, h2⟩ := hr
  have hpl : p.length = n := by rw [hp.length_eq, List.length_range]
  simp at L
  simp [L]
  refine ⟨by omega, got_for (fun i env cs' => ∃ (c : List Nat) (y4 y5 : Option D), env = [some (.cell k), some (di n), some (dl p), some (.cell cs.length), y4, y5] ∧ Hs cs k (t + n + 1 + i) [.lst (dis c)] cs' ∧ c.length = i + 2 ∧ (∀ x ∈ c, x ≤ n) ∧ 0 ∈ c ∧ n ∈ c)
    ⟨[0, n], none, none, rfl, h2, rfl, by simp, by simp, by simp⟩ (fun _ _ _ _ _ => rfl) (fun i x env cs' hx hI => ?_) fun env cs' hI => ?_⟩
  · obtain ⟨c, y4, y5, rfl, hs, hcl, hcn, h0, hnn⟩ := hI
    obtain ⟨hi, rfl⟩ := rng_at hx
    have o2 : cs'[cs.length]? = some (.lst (dis c)) := hs.own_at 0
    simp [o2]
    refine (take_ok hs (m := (n : Int)) (by omega) (by omega) (by omega)).mono fun r hr => ?_
    obtain ⟨e, cs3, rfl, he, hs3⟩ := hr
    have o3 : cs3[cs.length]? = some (.lst (dis c)) := hs3.own_at 0
    have w := hs3.put 0 (.lst (dis (c ++ [e])))
    simp [o3]
    refine ⟨by omega, c ++ [e], ?_, by simp [hcl], ?_, by simp [h0], by simp [hnn]⟩
    · simpa [Nat.add_assoc] using w
    · intro x hx
      rcases List.mem_append.mp hx with hx | hx
      · exact hcn x hx
      · rw [List.mem_singleton] at hx
        omega
  · obtain ⟨c, y4, y5, rfl, hs, hcl, hcn, h0, hnn⟩ := hI
    rw [rng_len] at hs hcl
    have o2 : cs'[cs.length]? = some (.lst (dis c)) := hs.own_at 0
    have hsr := sortN_rise c
    have hsm : ∀ x, x ∈ sortN c ↔ x ∈ c := fun x => sortN_mem
    generalize es : sortN c = s at hsr hsm
    have hcl2 : c.length < 64 := by omega
    have hs4 := hs.push (.lst (dis s))
    have L' := hs.len
    simp at L'
    have o4 : (cs' ++ [Cell.lst (dis s)])[cs.length + 1]? = some (.lst (dis s)) := hs4.own_at 1
    have hsl : ∀ x ∈ s, x ≤ p.length := fun x hx => by
      rw [hpl]
      exact hcn x ((hsm x).mp hx)
    have sm : List.map ((.int : Int → D)) (s.map fun n : Nat => (n : Int)) = dis s := by
      rw [List.map_map]
      rfl
    have s0 : s ≠ [] := fun e => by
      have := (hsm 0).mpr h0
      rw [e] at this
      exact absurd this List.not_mem_nil
    have s1 : 0 < s.length := List.length_pos_iff.mpr s0
    have sz : s.length ≤ n + 1 := nodup_lt (hsr.imp (fun h => Nat.ne_of_lt h)) fun x hx => by
      have := hsl x hx
      omega
    have ec : (s.length : Int) - 1 = ((s.length - 1 : Nat) : Int) := by omega
    simp [o2, intsOf_dis, sortS_nat, es, hcl2, sm, one_at, wipe, ec]
    refine ⟨by omega, ?_⟩
    rw [rng_nat]
    refine got_lc_of di (fun j => .lst (dis ((segs p s).getD j []))) rfl (by rw [List.length_range]; omega) (fun j hj => ?_) ?_
    · have hj' := List.mem_range.mp hj
      obtain ⟨a, ha⟩ : ∃ a, s[j]? = some a := ⟨_, List.getElem?_eq_getElem (by omega)⟩
      obtain ⟨b, hb⟩ : ∃ b, s[j + 1]? = some b := ⟨_, List.getElem?_eq_getElem (by omega)⟩
      have hab : a < b := by
        have h1 := List.getElem?_eq_some_iff.mp ha
        have h2 := List.getElem?_eq_some_iff.mp hb
        have := List.pairwise_iff_getElem.mp hsr j (j + 1) h1.1 h2.1 (by omega)
        rw [h1.2, h2.2] at this
        exact this
      have r1 : atI (dis s) (j : Int) = some (di a) := atI_nat (by rw [List.getElem?_map, ha]; rfl)
      have r2 : atI (dis s) ((j : Int) + 1) = some (di b) := atI_nat (j := j + 1) (by rw [List.getElem?_map, hb]; rfl)
      have hbl := hsl b (List.mem_of_getElem? hb)
      have cn : cut (dis p) (some (a : Int)) (some (b : Int)) = dis ((segs p s).getD j []) := by
        rw [cut_nat (by omega) (by rw [List.length_map]; exact hbl), List.getD_eq_getElem?_getD, segs_at p s j a b ha hb, Option.getD_some, dis, dis, List.map_take, List.map_drop]
      simp [eYes, one_at, r1, r2, cn, -List.getD_eq_getElem?_getD]
    · have er : (List.range (s.length - 1)).map (fun j => D.lst (dis ((segs p s).getD j []))) = (segs p s).map dl := by
        refine List.ext_getElem? fun j => ?_
        rw [List.getElem?_map, List.getElem?_map]
        by_cases hj : j < s.length - 1
        · have hj2 : j < (segs p s).length := by rw [segs_len]; exact hj
          rw [List.getElem?_range hj, List.getElem?_eq_getElem hj2]
          show some (dl ((segs p s).getD j [])) = _
          rw [List.getD_eq_getElem?_getD, List.getElem?_eq_getElem hj2]
          rfl
        · rw [List.getElem?_eq_none (by rw [List.length_range]; omega), List.getElem?_eq_none (by rw [segs_len]; omega)]
          rfl
      simp [er, -List.getD_eq_getElem?_getD]
      refine ⟨_, _, _, ⟨rfl, rfl⟩, hs4.mono (by omega), _, frozen_pure (pure_dll (segs p s)), fun cs3 h3 => ⟨segs p s, cs3, ⟨rfl, rfl⟩, segs_ne p s hsr hsl, ?_, h.trans h3⟩⟩
      have hm0 := (hsm 0).mpr h0
      have hmn := (hsm n).mpr hnn
      cases s with
      | nil => exact absurd rfl s0
      | cons a r =>
        have hp' := List.pairwise_cons.mp hsr
        have ea : a = 0 := by
          rcases List.mem_cons.mp hm0 with e | e
          · exact e.symm
          · have := hp'.1 0 e
            omega
        subst ea
        rw [segs_flat p r 0 hsr, List.drop_zero]
        · exact hp
        · obtain ⟨z, hz⟩ : ∃ z, (0 :: r).getLast? = some z := ⟨_, List.getLast?_eq_getLast (List.cons_ne_nil _ _)⟩
          refine ⟨z, hz, ?_⟩
          obtain ⟨i, hi⟩ := List.getElem?_of_mem hmn
          have hi2 := List.getElem?_eq_some_iff.mp hi
          rw [List.getLast?_eq_getElem?] at hz
          have hz2 := List.getElem?_eq_some_iff.mp hz
          rw [hpl]
          by_cases e : i = (0 :: r).length - 1
          · subst e
            rw [hi] at hz
            cases hz
            exact Nat.le_refl _
          · have := List.pairwise_iff_getElem.mp hsr i ((0 :: r).length - 1) hi2.1 hz2.1 (by have := hi2.1; omega)
            rw [hi2.2, hz2.2] at this
            omega
end k29
end
section
set_option linter.all false
set_option maxHeartbeats 1000000
namespace k29
open PySem Mi
theorem ordered_ok {cs cs0 own : Cs} {k t : Nat} {ls : List (Nat × Nat)} (h : Hs cs0 k t own cs) (hl : ls.length < 1000) (ht : t + 1002 < 2 ^ 64) :
    got (popped f__law_ordered [.cell k, .lst (ls.map pr)] cs) fun r => ∃ (l2 : List (Nat × Nat)) (cs2 : Cs), r = .v (.lst (l2.map pr)) cs2 ∧ (∀ p, p ∈ l2 ↔ p ∈ ls) ∧ l2.length ≤ 2 * ls.length ∧ Hs cs0 k (t + 1002) own cs2 := by
  refine got_poppedH (k := k) (t := t + 1002) (got_fn rfl ?_)
  simp [b__law_ordered]
  refine (take_ok h.refl (m := 3) (by omega) (by omega) (by omega)).mono fun r hr => ?_
  obtain ⟨d, cs1, rfl, hd, h1⟩ := hr
  
  have step : ∀ (l1 : List (Nat × Nat)) (cs2 : Cs) (y2 y3 : Option D), (∀ p, p ∈ l1 ↔ p ∈ ls) → l1.length = ls.length → Hs cs k (t + 1001) [] cs2 →
      got (sSeq (sIf (e2 oEqS (call (popped f__law_take) (aCons (eVar 0) (aCons (eC (.int 3)) aNil))) (eC (.int 0))) (sSet 1 (eL (lAdd (eVar 1) (eVar 1)))) sNext) (sRet (eVar 1)) [some (.cell k), some (.lst (l1.map pr)), y2, y3] cs2)
        (fnK fun r => ∃ d own' cs', ∃ d', r = .v d cs' ∧ Hs cs k (t + 1002) own' cs' ∧ frozen cs.length cs' d = some d' ∧ ∀ cs2, Hs cs k (t + 1002) [] cs2 → ∃ (l2 : List (Nat × Nat)) (cs2_1 : Cs), R.v d' cs2 = .v (.lst (l2.map pr)) cs2_1 ∧ (∀ p, p ∈ l2 ↔ p ∈ ls) ∧ l2.length ≤ 2 * ls.length ∧ Hs cs0 k (t + 1002) own cs2_1) := by
    intro l1 cs2 y2 y3 hm hll h2
    simp
    refine (take_ok h2 (m := 3) (by omega) (by omega) (by omega)).mono fun r hr => ?_
    obtain ⟨e, cs3, rfl, he, h3⟩ := hr
    by_cases e0 : e = 0
    · simp [e0]
      refine ⟨by omega, _, [], _, ⟨rfl, rfl⟩, h3, _, frozen_pure (?_), fun cs4 h4 => ⟨l1 ++ l1, cs4, ⟨?_, rfl⟩, fun a b => ?_, ?_, h.trans h4⟩⟩
      · rw [← List.map_append]
        exact pairs_pure _
      · simp
      · simp [hm]
      · rw [List.length_append]
        omega
    · simp [e0]
      refine ⟨_, [], _, ⟨rfl, rfl⟩, h3, _, frozen_pure (pairs_pure _), fun cs4 h4 => ⟨l1, cs4, ⟨rfl, rfl⟩, fun a b => hm _, by omega, h.trans h4⟩⟩
  by_cases d0 : d = 0
  · subst d0
    simp
    have := step ls.reverse cs1 (some (.int 0)) none (fun p => List.mem_reverse) List.length_reverse (h1.mono (by omega))
    simp at this
    exact this
  · by_cases d2 : d = 2
    · subst d2
      simp [wipe]
      refine (turning_ok h1 (n := ls.length) (by omega) (by omega)).mono fun r hr => ?_
      obtain ⟨p, cs2, rfl, hp, h2⟩ := hr
      simp
      refine got_lc_of di (fun j => pr (ls.getD j (0, 0))) rfl (by rw [hp.length_eq, List.length_range]; omega) (fun j hj => ?_) ?_
      · have hj' := List.mem_range.mp (hp.subset hj)
        have r1 : atI (ls.map pr) (j : Int) = some (pr (ls.getD j (0, 0))) := atI_nat (by rw [List.getElem?_map, List.getD_eq_getElem?_getD, List.getElem?_eq_getElem hj']; rfl)
        simp [eYes, r1, -List.getD_eq_getElem?_getD]
      · have := step (p.map fun j => ls.getD j (0, 0)) cs2 (some (.int 2)) none (fun q => ?_) (by rw [List.length_map, hp.length_eq, List.length_range]) (h2.mono (by omega))
        · rw [List.map_map] at this
          simp [-List.getD_eq_getElem?_getD] at this
          simp [-List.getD_eq_getElem?_getD]
          exact this
        · rw [List.mem_map]
          constructor
          · rintro ⟨j, hj, rfl⟩
            have hj' := List.mem_range.mp (hp.subset hj)
            rw [List.getD_eq_getElem?_getD, List.getElem?_eq_getElem hj']
            exact List.getElem_mem hj'
          · intro hq
            obtain ⟨j, hj⟩ := List.getElem?_of_mem hq
            refine ⟨j, hp.symm.subset (List.mem_range.mpr (List.getElem?_eq_some_iff.mp hj).1), ?_⟩
            rw [List.getD_eq_getElem?_getD, hj]
            rfl
    · have i0 : ¬ ((d : Int) = 0) := by omega
      have i2 : ¬ ((d : Int) = 2) := by omega
      simp [i0, i2, d0, d2]
      have := step ls cs1 (some (di d)) none (fun p => Iff.rfl) rfl (h1.mono (by omega))
      simp at this
      exact this
def Adj (r : List Nat) (x y : Nat) : Prop := ∃ j, r[j]? = some x ∧ r[j + 1]? = some y
theorem some_rows_ok {cs cs0 own : Cs} {k t : Nat} {rows : List (List Nat)} (h : Hs cs0 k t own cs) (hl : rows.length < 1000) (hrl : ∀ r ∈ rows, r.length < 1000) (ht : t + 5000 < 2 ^ 64) :
    got (popped f__law_some_rows [.cell k, dll rows] cs) fun r => ∃ (few : List (Nat × Nat)) (ch : List (List Nat)) (cs2 : Cs), r = .v (.tup [.lst (few.map pr), dll ch]) cs2 ∧ ch.Sublist rows ∧ few.length ≤ rows.length ∧
      (∀ c ∈ ch, ∃ x y, Adj c x y ∧ ((x, y) ∈ few ∨ (y, x) ∈ few)) ∧ (∀ x y, (x, y) ∈ few → ∃ c ∈ ch, Adj c x y ∨ Adj c y x) ∧ Hs cs0 k (t + 5000) own cs2 := by
  refine got_poppedH (k := k) (t := t + 5000) (got_fn rfl ?_)
  have P := (h.refl.push (.lst [])).push (.lst [])
  simp [b__law_some_rows, List.append_assoc]
  refine got_for (fun i env cs' => ∃ (few : List (Nat × Nat)) (ch : List (List Nat)) (y4 y5 y6 : Option D), env = [some (.cell k), some (dll rows), some (.cell cs.length), some (.cell (cs.length + 1)), y4, y5, y6] ∧
      Hs cs k (t + 4 * i) [.lst (few.map pr), .lst (ch.map dl)] cs' ∧ ch.Sublist (rows.take i) ∧ few.length ≤ i ∧ ch.length ≤ i ∧
      (∀ c ∈ ch, ∃ x y, Adj c x y ∧ ((x, y) ∈ few ∨ (y, x) ∈ few)) ∧ (∀ x y, (x, y) ∈ few → ∃ c ∈ ch, Adj c x y ∨ Adj c y x))
    ⟨[], [], none, none, none, rfl, by simpa using P, List.Sublist.refl _, Nat.zero_le _, Nat.zero_le _, fun c hc => absurd hc List.not_mem_nil, fun x y hxy => absurd hxy List.not_mem_nil⟩ (fun _ _ _ _ _ => rfl) (fun i x env cs' hx hI => ?_) fun env cs' hI => ?_
  · obtain ⟨few, ch, y4, y5, y6, rfl, hs, hsub, hfl, hchl, hc1, hc2⟩ := hI
    rw [List.getElem?_map] at hx
    obtain ⟨row, hrow, rfl⟩ := Option.map_eq_some_iff.mp hx
    have hi := (List.getElem?_eq_some_iff.mp hrow).1
    have hrl' := hrl row (List.mem_of_getElem? hrow)
    have tk : rows.take (i + 1) = rows.take i ++ [row] := by rw [List.take_add_one, hrow]; rfl
    have keep : ∀ cs2 y5 y6, Hs cs k (t + 4 * (i + 1)) [.lst (few.map pr), .lst (ch.map dl)] cs2 → ∃ (few : List (Nat × Nat)) (ch : List (List Nat)) (y4 y5' y6' : Option D), [some (D.cell k), some (dll rows), some (.cell cs.length), some (.cell (cs.length + 1)), some (dl row), y5, y6] = [some (.cell k), some (dll rows), some (.cell cs.length), some (.cell (cs.length + 1)), y4, y5', y6'] ∧
      Hs cs k (t + 4 * (i + 1)) [.lst (few.map pr), .lst (ch.map dl)] cs2 ∧ ch.Sublist (rows.take (i + 1)) ∧ few.length ≤ i + 1 ∧ ch.length ≤ i + 1 ∧
      (∀ c ∈ ch, ∃ x y, Adj c x y ∧ ((x, y) ∈ few ∨ (y, x) ∈ few)) ∧ (∀ x y, (x, y) ∈ few → ∃ c ∈ ch, Adj c x y ∨ Adj c y x) := fun cs2 y5 y6 h2 =>
        ⟨few, ch, _, _, _, rfl, h2, by rw [tk]; exact hsub.trans (List.sublist_append_left _ _), by omega, by omega, hc1, hc2⟩
    by_cases h1 : 1 < row.length
    · have h1' : (1 : Int) < (row.length : Int) := by omega
      simp [h1']
      refine (take_ok hs (m := 3) (by omega) (by omega) (by omega)).mono fun r hr => ?_
      obtain ⟨d, cs2, rfl, hd, hs2⟩ := hr
      by_cases d0 : 0 < d
      · simp [d0]
        refine (take_ok hs2 (m := (row.length : Int) - 1) (by omega) (by omega) (by omega)).mono fun r hr => ?_
        obtain ⟨e, cs3, rfl, he, hs3⟩ := hr
        simp
        refine (pick_ok hs3 (xs := [.int 0, .int ((row.length : Int) - 2), di e]) (by simp) rfl (by simp) (by omega)).mono fun r hr => ?_
        obtain ⟨v, cs4, rfl, hv, hs4⟩ := hr
        obtain ⟨a, ha, rfl⟩ : ∃ a : Nat, a + 1 < row.length ∧ v = di a := by
          simp at hv
          rcases hv with rfl | rfl | rfl
          · exact ⟨0, by omega, rfl⟩
          · refine ⟨row.length - 2, by omega, ?_⟩
            show D.int _ = D.int _
            congr 1
            omega
          · exact ⟨e, by omega, rfl⟩
        obtain ⟨x, hxa⟩ : ∃ x, row[a]? = some x := ⟨_, List.getElem?_eq_getElem (by omega)⟩
        obtain ⟨y, hya⟩ : ∃ y, row[a + 1]? = some y := ⟨_, List.getElem?_eq_getElem ha⟩
        have r1 : atI (dis row) (a : Int) = some (di x) := atI_nat (by rw [List.getElem?_map, hxa]; rfl)
        have r2 : atI (dis row) ((a : Int) + 1) = some (di y) := atI_nat (j := a + 1) (by rw [List.getElem?_map, hya]; rfl)
        simp [r1, r2]
        have o4 : cs4[cs.length]? = some (.lst (few.map pr)) := hs4.own_at 0
        simp [o4]
        refine (pick_ok hs4 (xs := [pr (x, y), pr (y, x)]) (by simp) rfl (by simp) (by omega)).mono fun r hr => ?_
        obtain ⟨q, cs5, rfl, hq, hs5⟩ := hr
        obtain ⟨q', hq', rfl⟩ : ∃ q' : Nat × Nat, (q' = (x, y) ∨ q' = (y, x)) ∧ q = pr q' := by
          simp at hq
          rcases hq with rfl | rfl
          · exact ⟨(x, y), .inl rfl, rfl⟩
          · exact ⟨(y, x), .inr rfl, rfl⟩
        have o5 : cs5[cs.length]? = some (.lst (few.map pr)) := hs5.own_at 0
        have w5 := hs5.put 0 (.lst ((few ++ [q']).map pr))
        have o6 : (cs5.set cs.length (.lst ((few ++ [q']).map pr)))[cs.length + 1]? = some (.lst (ch.map dl)) := w5.own_at 1
        have w6 := w5.put 1 (.lst ((ch ++ [row]).map dl))
        simp at o6 w6
        simp [o5, o6]
        refine ⟨by omega, by omega, few ++ [q'], ch ++ [row], ?_, ?_, by simp; omega, by simp; omega, ?_, ?_⟩
        · refine Hs.mono (t := t + 4 * i + 1 + 1 + 1 + 1) ?_ (by omega)
          simpa using w6
        · rw [tk]
          exact hsub.append (List.Sublist.refl _)
        · intro c hc
          rcases List.mem_append.mp hc with hc | hc
          · obtain ⟨x', y', ha', hm'⟩ := hc1 c hc
            exact ⟨x', y', ha', hm'.imp (List.mem_append_left _) (List.mem_append_left _)⟩
          · rw [List.mem_singleton] at hc
            subst hc
            refine ⟨x, y, ⟨a, hxa, hya⟩, ?_⟩
            rcases hq' with rfl | rfl
            · exact .inl (by simp)
            · exact .inr (by simp)
        · intro x' y' hm'
          rcases List.mem_append.mp hm' with hm' | hm'
          · obtain ⟨c, hc, hcc⟩ := hc2 x' y' hm'
            exact ⟨c, List.mem_append_left _ hc, hcc⟩
          · rw [List.mem_singleton] at hm'
            refine ⟨row, by simp, ?_⟩
            rcases hq' with rfl | rfl
            · cases hm'
              exact .inl ⟨a, hxa, hya⟩
            · cases hm'
              exact .inr ⟨a, hxa, hya⟩
      · have : d = 0 := by omega
        subst this
        simp
        have := keep cs2 y5 y6 (hs2.mono (by omega))
        simpa using this
    · have h1' : ¬ ((1 : Int) < (row.length : Int)) := by omega
      simp [h1']
      have := keep cs' y5 y6 (hs.mono (by omega))
      simpa using this
  · obtain ⟨few, ch, y4, y5, y6, rfl, hs, hsub, hfl, hchl, hc1, hc2⟩ := hI
    rw [List.length_map] at hs hsub hfl
    rw [List.take_length] at hsub
    have o0 : cs'[cs.length]? = some (.lst (few.map pr)) := hs.own_at 0
    have o1 : cs'[cs.length + 1]? = some (.lst (ch.map dl)) := hs.own_at 1
    simp
    refine ⟨_, _, _, ⟨rfl, rfl⟩, hs.mono (by omega), .tup [.lst (few.map pr), dll ch], ?_, fun cs2 h2 => ⟨few, ch, cs2, ⟨rfl, rfl⟩, hsub, hfl, ?_, ?_, h.trans h2⟩⟩
    · have f0 : look cs.length cs' 8 cs.length = some (.lst (few.map pr)) := look_cell (Nat.le_refl _) o0 (pairs_pure _)
      have f1 : look cs.length cs' 8 (cs.length + 1) = some (dll ch) := look_cell (by omega) o1 (pure_dll ch)
      simp [frozen, DEEP, D.subst, D.substs, f0, f1]
    · exact hc1
    · exact hc2
end k29
end
section
set_option linter.all false
set_option maxHeartbeats 1000000
namespace k29
open PySem Mi
def Same (L : List (List Nat)) (x y : Nat) : Prop := ∃ r ∈ L, x ∈ r ∧ y ∈ r
structure Sh (n : Nat) (L : List (List Nat)) : Prop where
  ne : ∀ r ∈ L, r ≠ []
  perm : L.flatten.Perm (List.range n)
section
variable {n : Nat} {L : List (List Nat)}
theorem Sh.nodup (h : Sh n L) : L.flatten.Nodup := h.perm.nodup_iff.mpr List.nodup_range
theorem Sh.rows (h : Sh n L) : ∀ r ∈ L, r.Nodup := (List.pairwise_flatten.mp h.nodup).1
theorem Sh.disj (h : Sh n L) : L.Pairwise fun a b => ∀ x ∈ a, ∀ y ∈ b, x ≠ y := (List.pairwise_flatten.mp h.nodup).2
theorem Sh.lt (h : Sh n L) {r : List Nat} (hr : r ∈ L) {x : Nat} (hx : x ∈ r) : x < n := List.mem_range.mp (h.perm.subset (List.mem_flatten.mpr ⟨r, hr, hx⟩))
theorem Sh.cover (h : Sh n L) {x : Nat} (hx : x < n) : ∃ r ∈ L, x ∈ r := List.mem_flatten.mp (h.perm.symm.subset (List.mem_range.mpr hx))
theorem pw_mem {α : Type} {R : α → α → Prop} : ∀ {l : List α}, l.Pairwise R → ∀ a ∈ l, ∀ b ∈ l, a = b ∨ R a b ∨ R b a
  | [], _, a, ha, _, _ => absurd ha List.not_mem_nil
  | c :: l, h, a, ha, b, hb => by
    have h' := List.pairwise_cons.mp h
    rcases List.mem_cons.mp ha with e1 | ha1
    · rcases List.mem_cons.mp hb with e2 | hb1
      · exact .inl (e1.trans e2.symm)
      · exact .inr (.inl (e1 ▸ h'.1 b hb1))
    · rcases List.mem_cons.mp hb with e2 | hb1
      · exact .inr (.inr (e2 ▸ h'.1 a ha1))
      · exact pw_mem h'.2 a ha1 b hb1
theorem Sh.uniq (h : Sh n L) {a b : List Nat} (ha : a ∈ L) (hb : b ∈ L) {x : Nat} (xa : x ∈ a) (xb : x ∈ b) : a = b := by
  rcases pw_mem h.disj a ha b hb with e | e | e
  · exact e
  · exact absurd rfl (e x xa x xb)
  · exact absurd rfl (e x xb x xa)
theorem lexB_irrefl : ∀ a : List Nat, lexB a a = false
  | [] => rfl
  | x :: r => by
    show (if x = x then lexB r r else _) = false
    rw [if_pos rfl]
    exact lexB_irrefl r
theorem Sh.cls (h : Sh n L) {r : List Nat} (hr : r ∈ L) {p : Nat} (hp : p ∈ r) : cls n (Same L) p = srt r := by
  refine rise_eq (cls_rise _ _ _) (srt_rise (h.rows r hr)) fun q => ?_
  rw [cls_mem, (srt_perm r).mem_iff]
  constructor
  · rintro ⟨_, r', hr', h1, h2⟩
    rw [h.uniq hr hr' hp h1]
    exact h2
  · intro hq
    exact ⟨h.lt hr hq, r, hr, hp, hq⟩
theorem Same.symm {x y : Nat} : Same L x y → Same L y x := fun ⟨r, hr, h1, h2⟩ => ⟨r, hr, h2, h1⟩
theorem Sh.refl (h : Sh n L) {x : Nat} (hx : x < n) : Same L x x := by
  obtain ⟨r, hr, hxr⟩ := h.cover hx
  exact ⟨r, hr, hxr, hxr⟩
theorem Sh.trans (h : Sh n L) {x y z : Nat} : Same L x y → Same L y z → Same L x z := fun ⟨r, hr, h1, h2⟩ ⟨r', hr', h3, h4⟩ => by
  have := h.uniq hr hr' h2 h3
  subst this
  exact ⟨r, hr, h1, h4⟩
theorem rise_head {l : List Nat} {p : Nat} (h : l.Pairwise (· < ·)) (hp : p ∈ l) (hl : ∀ q ∈ l, p ≤ q) : ∃ r, l = p :: r := by
  cases l with
  | nil => exact absurd hp List.not_mem_nil
  | cons a r =>
    have h' := List.pairwise_cons.mp h
    rcases List.mem_cons.mp hp with e | e
    · exact ⟨r, by rw [e]⟩
    · have h1 := h'.1 p e
      have h2 := hl a List.mem_cons_self
      omega
open Classical in
theorem Sh.canon (h : Sh n L) : srtL (L.map srt) = canon n (Same L) := by
  have hd : ∀ p, p < n → (∀ q, q < p → ¬ Same L q p) → ∃ r, Mi.cls n (Same L) p = p :: r := fun p hp hm =>
    rise_head (cls_rise _ _ _) (cls_mem.mpr ⟨hp, h.refl hp⟩) fun q hq => by
      by_cases hqp : q < p
      · exact absurd (cls_mem.mp hq).2.symm (hm q hqp)
      · omega
  have sorted : (Mi.canon n (Same L)).Pairwise fun a b => lexB a b = true := by
    unfold Mi.canon canonTo
    rw [List.pairwise_map]
    have pw : ((List.range n).filter fun p => decide (∀ q, q < p → ¬ Same L q p)).Pairwise (· < ·) := (rise_range n).filter _
    refine List.Pairwise.imp_of_mem ?_ pw
    intro a b ha hb hab
    have ha' := List.mem_filter.mp ha
    have hb' := List.mem_filter.mp hb
    obtain ⟨r1, e1⟩ := hd a (List.mem_range.mp ha'.1) (of_decide_eq_true ha'.2)
    obtain ⟨r2, e2⟩ := hd b (List.mem_range.mp hb'.1) (of_decide_eq_true hb'.2)
    rw [e1, e2]
    show (if a = b then lexB r1 r2 else decide (a < b)) = true
    rw [if_neg (by omega)]
    exact decide_eq_true hab
  refine srtL_eq ?_ sorted
  refine (List.perm_ext_iff_of_nodup (sorted.imp fun {a b} hab e => ?_) ?_).mpr fun c => ?_
  · subst e
    rw [lexB_irrefl] at hab
    cases hab
  · rw [List.Nodup, List.pairwise_map]
    refine List.Pairwise.imp_of_mem ?_ h.disj
    intro a b ha hb hab e
    obtain ⟨x, hx⟩ := List.exists_mem_of_ne_nil a (h.ne a ha)
    have : x ∈ b := (srt_perm b).mem_iff.mp (e ▸ (srt_perm a).mem_iff.mpr hx)
    exact hab x hx x this rfl
  · constructor
    · intro hc
      unfold Mi.canon canonTo at hc
      obtain ⟨p, hp, rfl⟩ := List.mem_map.mp hc
      have hp' := List.mem_range.mp (List.mem_filter.mp hp).1
      obtain ⟨r, hr, hpr⟩ := h.cover hp'
      rw [h.cls hr hpr]
      exact List.mem_map.mpr ⟨r, hr, rfl⟩
    · intro hc
      obtain ⟨r, hr, rfl⟩ := List.mem_map.mp hc
      obtain ⟨x, hx⟩ := List.exists_mem_of_ne_nil r (h.ne r hr)
      have hx' := (srt_perm r).mem_iff.mpr hx
      cases es : srt r with
      | nil =>
        rw [es] at hx'
        exact absurd hx' List.not_mem_nil
      | cons p t =>
        have rs := srt_rise (h.rows r hr)
        rw [es] at rs
        have hpr : p ∈ r := (srt_perm r).mem_iff.mp (by rw [es]; exact List.mem_cons_self)
        have hpn := h.lt hr hpr
        unfold Mi.canon canonTo
        refine List.mem_map.mpr ⟨p, List.mem_filter.mpr ⟨List.mem_range.mpr hpn, decide_eq_true fun q hq hs => ?_⟩, ?_⟩
        · obtain ⟨r', hr', h1, h2⟩ := hs
          have := h.uniq hr hr' hpr h2
          subst this
          have hq' := (srt_perm r).mem_iff.mpr h1
          rw [es] at hq'
          rcases List.mem_cons.mp hq' with e | e
          · omega
          · have := (List.pairwise_cons.mp rs).1 q e
            omega
        · rw [h.cls hr hpr, es]
end
def Links (L : List (List Nat)) (ls : List (Nat × Nat)) : Prop := ∀ x y, (x, y) ∈ ls ↔ ∃ r ∈ L, Adj r x y
theorem Adj.mem {r : List Nat} {x y : Nat} : Adj r x y → x ∈ r ∧ y ∈ r := fun ⟨_, h1, h2⟩ => ⟨List.mem_of_getElem? h1, List.mem_of_getElem? h2⟩
section
variable {n : Nat} {L : List (List Nat)} {ls : List (Nat × Nat)}
theorem Sh.links (h : Sh n L) (hl : Links L ls) : ∀ p ∈ ls, p.1 < n ∧ p.2 < n := fun p hp => by
  obtain ⟨r, hr, ha⟩ := (hl p.1 p.2).mp hp
  exact ⟨h.lt hr ha.mem.1, h.lt hr ha.mem.2⟩
abbrev exs (n : Nat) (ls : List (Nat × Nat)) : List (List Nat) := ls.map fun p => exch n p.1 p.2
theorem Sh.mks (h : Sh n L) (hl : Links L ls) : ∀ m ∈ exs n ls, Mk n m := fun m hm => by
  obtain ⟨p, hp, rfl⟩ := List.mem_map.mp hm
  exact exch_mk (h.links hl p hp).1 (h.links hl p hp).2
theorem Sh.keep (h : Sh n L) (hl : Links L ls) {m : List Nat} (hm : m ∈ exs n ls) {r : List Nat} (hr : r ∈ L) {y z : Nat} (hy : y ∈ r) (e : m[y]? = some z) : z ∈ r := by
  obtain ⟨p, hp, rfl⟩ := List.mem_map.mp hm
  obtain ⟨r', hr', ha⟩ := (hl p.1 p.2).mp hp
  rw [exch_at (h.lt hr hy)] at e
  have e' := Option.some.inj e
  subst e'
  unfold sw
  split
  · rename_i hyb
    rw [h.uniq hr hr' (hyb ▸ hy) ha.mem.2]
    exact ha.mem.1
  · split
    · rename_i _ hya
      rw [h.uniq hr hr' (hya ▸ hy) ha.mem.1]
      exact ha.mem.2
    · exact hy
theorem Sh.reach (h : Sh n L) (hl : Links L ls) {x y : Nat} (hx : x < n) : Reach (exs n ls) x y ↔ Same L x y := by
  constructor
  · intro hr
    refine hr.in_ (Same L x) (h.refl hx) fun y z m hy hm e => ?_
    obtain ⟨r, hr, h1, h2⟩ := hy
    exact ⟨r, hr, h1, h.keep hl hm hr h2 e⟩
  · rintro ⟨r, hr, h1, h2⟩
    have up : ∀ (d i : Nat) (x y : Nat), r[i]? = some x → r[i + d]? = some y → Reach (exs n ls) x y := by
      intro d
      induction d with
      | zero =>
        intro i x y e1 e2
        rw [Nat.add_zero, e1] at e2
        cases e2
        exact .refl
      | succ d ih =>
        intro i x y e1 e2
        obtain ⟨w, hw⟩ : ∃ w, r[i + d]? = some w := ⟨_, List.getElem?_eq_getElem (by have := (List.getElem?_eq_some_iff.mp e2).1; omega)⟩
        refine (ih i x w e1 hw).step (m := exch n w y) (List.mem_map.mpr ⟨(w, y), (hl w y).mpr ⟨r, hr, i + d, hw, e2⟩, rfl⟩) ?_
        rw [exch_at (h.lt hr (List.mem_of_getElem? hw))]
        unfold sw
        split
        · rename_i e
          rw [e]
        · rw [if_pos rfl]
    obtain ⟨i, hi⟩ := List.getElem?_of_mem h1
    obtain ⟨j, hj⟩ := List.getElem?_of_mem h2
    by_cases hij : i ≤ j
    · exact up (j - i) i x y hi (by rw [show i + (j - i) = j by omega]; exact hj)
    · have := up (i - j) j y x hj (by rw [show j + (i - j) = i by omega]; exact hi)
      exact this.symm (h.mks hl) (h.lt hr h2)
theorem Sh.join0 (h : Sh n L) (hl : Links L ls) {ps : List (Nat × Nat)} (h1 : ∀ x y, (x, y) ∈ ps → (x, y) ∈ ls ∨ (y, x) ∈ ls) (h2 : ∀ x y, (x, y) ∈ ls → (x, y) ∈ ps ∨ (y, x) ∈ ps) {x y : Nat} (hx : x < n) : Join [] ps x y ↔ Same L x y := by
  constructor
  · intro hj
    have : x = y ∨ Same L x y := by
      clear hx
      induction hj with
      | refl x => exact .inl rfl
      | pair hp =>
        rcases h1 _ _ hp with hp | hp
        · obtain ⟨r, hr, ha⟩ := (hl _ _).mp hp
          exact .inr ⟨r, hr, ha.mem⟩
        · obtain ⟨r, hr, ha⟩ := (hl _ _).mp hp
          exact .inr ⟨r, hr, ha.mem.2, ha.mem.1⟩
      | symm _ ih =>
        rcases ih with e | e
        · exact .inl e.symm
        · exact .inr e.symm
      | trans _ _ ih1 ih2 =>
        rcases ih1 with e | e
        · rw [e]
          exact ih2
        · rcases ih2 with e2 | e2
          · rw [← e2]
            exact .inr e
          · exact .inr (h.trans e e2)
      | mk _ hm => exact absurd hm List.not_mem_nil
    rcases this with e | e
    · subst e
      exact h.refl hx
    · exact e
  · rintro ⟨r, hr, h3, h4⟩
    have up : ∀ (d i : Nat) (x y : Nat), r[i]? = some x → r[i + d]? = some y → Join [] ps x y := by
      intro d
      induction d with
      | zero =>
        intro i x y e1 e2
        rw [Nat.add_zero, e1] at e2
        cases e2
        exact .refl x
      | succ d ih =>
        intro i x y e1 e2
        obtain ⟨w, hw⟩ : ∃ w, r[i + d]? = some w := ⟨_, List.getElem?_eq_getElem (by have := (List.getElem?_eq_some_iff.mp e2).1; omega)⟩
        refine (ih i x w e1 hw).trans ?_
        rcases h2 w y ((hl w y).mpr ⟨r, hr, i + d, hw, e2⟩) with hp | hp
        · exact .pair hp
        · exact (Join.pair hp).symm
    obtain ⟨i, hi⟩ := List.getElem?_of_mem h3
    obtain ⟨j, hj⟩ := List.getElem?_of_mem h4
    by_cases hij : i ≤ j
    · exact up (j - i) i x y hi (by rw [show i + (j - i) = j by omega]; exact hj)
    · exact (up (i - j) j y x hj (by rw [show j + (i - j) = i by omega]; exact hi)).symm
theorem Sh.join1 (h : Sh n L) (hl : Links L ls) {ch : List (List Nat)} (hc : ∀ c ∈ ch, c ∈ L) {ps : List (Nat × Nat)} (h1 : ∀ x y, (x, y) ∈ ps → ∃ c ∈ ch, Adj c x y ∨ Adj c y x) (h2 : ∀ c ∈ ch, ∃ x y, Adj c x y ∧ ((x, y) ∈ ps ∨ (y, x) ∈ ps)) {x y : Nat} : Join (exs n ls) ps x y ↔ x = y ∨ Same ch x y := by
  constructor
  · intro hj
    induction hj with
    | refl x => exact .inl rfl
    | pair hp =>
      obtain ⟨c, hcc, ha | ha⟩ := h1 _ _ hp
      · exact .inr ⟨c, hcc, ha.mem⟩
      · exact .inr ⟨c, hcc, ha.mem.2, ha.mem.1⟩
    | symm _ ih =>
      rcases ih with e | e
      · exact .inl e.symm
      · exact .inr e.symm
    | trans _ _ ih1 ih2 =>
      rcases ih1 with e | ⟨c, hcc, e1, e2⟩
      · rw [e]
        exact ih2
      · rcases ih2 with e3 | ⟨c', hcc', e3, e4⟩
        · rw [← e3]
          exact .inr ⟨c, hcc, e1, e2⟩
        · have := h.uniq (hc c hcc) (hc c' hcc') e2 e3
          subst this
          exact .inr ⟨c, hcc, e1, e4⟩
    | mk _ hm e1 e2 ih =>
      rcases ih with e | ⟨c, hcc, e3, e4⟩
      · subst e
        rw [e1] at e2
        exact .inl (Option.some.inj e2)
      · exact .inr ⟨c, hcc, h.keep hl hm (hc c hcc) e3 e1, h.keep hl hm (hc c hcc) e4 e2⟩
  · rintro (e | ⟨c, hcc, h3, h4⟩)
    · subst e
      exact .refl x
    · have hcL := hc c hcc
      have nd := h.rows c hcL
      obtain ⟨a, b, ⟨j, ja, jb⟩, hab⟩ := h2 c hcc
      have base : Join (exs n ls) ps a b := hab.elim .pair fun h => (Join.pair h).symm
      have ex : ∀ (i : Nat) (u v : Nat), c[i]? = some u → c[i + 1]? = some v → exch n u v ∈ exs n ls := fun i u v e1 e2 =>
        List.mem_map.mpr ⟨(u, v), (hl u v).mpr ⟨c, hcL, i, e1, e2⟩, rfl⟩
      have ne : ∀ (i i' : Nat) (u v : Nat), c[i]? = some u → c[i']? = some v → i ≠ i' → u ≠ v := fun i i' u v e1 e2 hne e => by
        subst e
        exact hne ((List.getElem?_inj (List.getElem?_eq_some_iff.mp e1).1 nd).mp (e1.trans e2.symm))
      have ltn : ∀ (i u : Nat), c[i]? = some u → u < n := fun i u e => h.lt hcL (List.mem_of_getElem? e)
      have up : ∀ (d v : Nat), c[j + 1 + d]? = some v → Join (exs n ls) ps a v := by
        intro d
        induction d with
        | zero =>
          intro v e
          rw [Nat.add_zero, jb] at e
          cases e
          exact base
        | succ d ih =>
          intro v e
          obtain ⟨u, hu⟩ : ∃ u, c[j + 1 + d]? = some u := ⟨_, List.getElem?_eq_getElem (by have := (List.getElem?_eq_some_iff.mp e).1; omega)⟩
          refine .mk (ih u hu) (ex (j + 1 + d) u v hu e) ?_ ?_
          · rw [exch_at (ltn j a ja)]
            unfold sw
            rw [if_neg (ne j _ a v ja e (by omega)), if_neg (ne j _ a u ja hu (by omega))]
          · rw [exch_at (ltn _ u hu)]
            unfold sw
            rw [if_neg (ne _ _ u v hu e (by omega)), if_pos rfl]
      have down : ∀ (d v : Nat), d ≤ j → c[j - d]? = some v → Join (exs n ls) ps v b := by
        intro d
        induction d with
        | zero =>
          intro v _ e
          rw [Nat.sub_zero, ja] at e
          cases e
          exact base
        | succ d ih =>
          intro v hd e
          obtain ⟨u, hu⟩ : ∃ u, c[j - d]? = some u := ⟨_, List.getElem?_eq_getElem (by have := (List.getElem?_eq_some_iff.mp ja).1; omega)⟩
          have hu' : c[j - (d + 1) + 1]? = some u := by
            rw [show j - (d + 1) + 1 = j - d by omega]
            exact hu
          refine .mk (ih u (by omega) hu) (ex (j - (d + 1)) v u e hu') ?_ ?_
          · rw [exch_at (ltn _ u hu)]
            unfold sw
            rw [if_pos rfl]
          · rw [exch_at (ltn _ b jb)]
            unfold sw
            rw [if_neg (ne _ _ b u jb hu (by omega)), if_neg (ne _ _ b v jb e (by omega))]
      have all : ∀ z ∈ c, Join (exs n ls) ps a z := fun z hz => by
        obtain ⟨i, hi⟩ := List.getElem?_of_mem hz
        by_cases hij : j + 1 ≤ i
        · exact up (i - (j + 1)) z (by rw [show j + 1 + (i - (j + 1)) = i by omega]; exact hi)
        · have := down (j - i) z (by omega) (by rw [show j - (j - i) = i by omega]; exact hi)
          exact base.trans this.symm
      exact (all x h3).symm.trans (all y h4)
end
end k29
end
section
set_option linter.all false
set_option maxHeartbeats 4000000
namespace k29
open PySem Mi
abbrev lk (r : List Nat) : List (Nat × Nat) := (List.range (r.length - 1)).map fun j => (r.getD j 0, r.getD (j + 1) 0)
theorem lk_mem {r : List Nat} {x y : Nat} : (x, y) ∈ lk r ↔ Adj r x y := by
  constructor
  · intro h
    obtain ⟨j, hj, e⟩ := List.mem_map.mp h
    have hj' := List.mem_range.mp hj
    cases e
    refine ⟨j, ?_, ?_⟩
    · rw [List.getD_eq_getElem?_getD, List.getElem?_eq_getElem (by omega)]
      rfl
    · rw [List.getD_eq_getElem?_getD, List.getElem?_eq_getElem (by omega)]
      rfl
  · rintro ⟨j, h1, h2⟩
    have := (List.getElem?_eq_some_iff.mp h2).1
    refine List.mem_map.mpr ⟨j, List.mem_range.mpr (by omega), ?_⟩
    rw [List.getD_eq_getElem?_getD, List.getD_eq_getElem?_getD, h1, h2]
    rfl
theorem links_of (L : List (List Nat)) : Links L (L.flatMap lk) := fun x y => by
  rw [List.mem_flatMap]
  exact ⟨fun ⟨r, hr, h⟩ => ⟨r, hr, lk_mem.mp h⟩, fun ⟨r, hr, h⟩ => ⟨r, hr, lk_mem.mpr h⟩⟩
theorem lk_len : ∀ L : List (List Nat), (L.flatMap lk).length ≤ L.flatten.length
  | [] => Nat.le_refl _
  | r :: L => by
    have := lk_len L
    simp only [List.flatMap_cons, List.flatten_cons, List.length_append, List.length_map, List.length_range] at *
    omega
theorem Sh.rlen {n : Nat} {L : List (List Nat)} (h : Sh n L) : ∀ r ∈ L, r.length ≤ n := fun r hr => nodup_lt (h.rows r hr) fun x hx => h.lt hr hx
theorem Sh.flen {n : Nat} {L : List (List Nat)} (h : Sh n L) : L.flatten.length = n := by rw [h.perm.length_eq, List.length_range]
theorem Sh.llen {n : Nat} {L : List (List Nat)} (h : Sh n L) : L.length ≤ n := by
  have : ∀ L : List (List Nat), (∀ r ∈ L, r ≠ []) → L.length ≤ L.flatten.length := fun L => by
    induction L with
    | nil => intro _; exact Nat.le_refl _
    | cons r L ih =>
      intro hh
      have h1 := ih fun r hr => hh r (List.mem_cons_of_mem _ hr)
      have h2 : 0 < r.length := List.length_pos_iff.mpr (hh r List.mem_cons_self)
      simp only [List.length_cons, List.flatten_cons, List.length_append]
      omega
  rw [← h.flen]
  exact this L h.ne
theorem canon_len {n : Nat} {R : Nat → Nat → Prop} : ∀ l ∈ canon n R, l.length ≤ n := fun l hl => by
  classical
  unfold canon canonTo at hl
  obtain ⟨p, _, rfl⟩ := List.mem_map.mp hl
  exact nodup_lt ((cls_rise n R p).imp fun h => Nat.ne_of_lt h) fun x hx => (cls_mem.mp hx).1
theorem fit_tps (ms : List (List Nat)) : (D.lst (ms.map tp)).fit = true := fit_list fun x hx => by
  obtain ⟨l, _, rfl⟩ := List.mem_map.mp hx
  have := fit_tp l
  simp only [D.fit, Bool.and_eq_true, decide_eq_true_eq] at this
  refine ⟨this.1, ?_⟩
  simp [D.depth, depth_dis]
theorem pure_tps (ms : List (List Nat)) : (D.lst (ms.map tp)).pure = true := D.pures_iff.mpr fun d hd => by
  obtain ⟨g, _, rfl⟩ := List.mem_map.mp hd
  exact pures_dis g
theorem fit_prs (ps : List (Nat × Nat)) : (D.lst (ps.map pr)).fit = true := fit_list fun x hx => by
  obtain ⟨l, _, rfl⟩ := List.mem_map.mp hx
  exact ⟨rfl, by simp [D.depth, D.depths]⟩
theorem sort_rows {L : List (List Nat)} (h : L.length ≤ 16777216) : sortD (L.map dl) = some ((srtL L).map dl) := sortD_dll h fun l _ m _ => likeDs_dis l m
theorem singles_flat : ∀ l : List Nat, (l.map fun x => [x]).flatten = l
  | [] => rfl
  | x :: r => by
    show x :: (r.map fun x => [x]).flatten = _
    rw [singles_flat r]
theorem flat_sub {a b : List (List Nat)} (h : a.Sublist b) : a.flatten.Sublist b.flatten := by
  induction h with
  | slnil => exact List.Sublist.refl _
  | cons r _ ih => exact ih.trans (List.sublist_append_right _ _)
  | cons_cons r _ ih => exact (List.Sublist.refl r).append ih
def Flips (l ps : List (Nat × Nat)) : Prop := ∀ (j : Nat) (p q : Nat × Nat), l[j]? = some p → ps[j]? = some q → q = p ∨ q = (p.2, p.1)
theorem Flips.add {l ps : List (Nat × Nat)} {i : Nat} {p q : Nat × Nat} (h : Flips l ps) (hl : ps.length = i) (hp : l[i]? = some p) (hq : q = p ∨ q = (p.2, p.1)) : Flips l (ps ++ [q]) := fun j p' q' hp' hq' => by
  by_cases e : j < ps.length
  · rw [List.getElem?_append_left e] at hq'
    exact h j p' q' hp' hq'
  · rw [List.getElem?_append_right (by omega)] at hq'
    have : j - ps.length = 0 := by
      have := (List.getElem?_eq_some_iff.mp hq').1
      simp at this
      omega
    rw [this] at hq'
    have e2 : q = q' := by simpa using hq'
    have : j = i := by omega
    subst this
    rw [hp] at hp'
    cases hp'
    subst e2
    exact hq
theorem right_ok {cs cs0 own : Cs} {k t n : Nat} {L : List (List Nat)} (h : Hs cs0 k t own cs) (S : Sh n L) (hn : n < 100) (ht : t + 10000 < 2 ^ 64) :
    got (popped f__law_right [.cell k, dll L, di n] cs) fun r => ∃ (cs2 : Cs), r = .v (.bl true) cs2 ∧ Hs cs0 k (t + 10000) own cs2 := by
  classical
  refine got_poppedH (k := k) (t := t + 10000) (got_fn rfl ?_)
  have hl := S.llen
  have hr := S.rlen
  have hf := S.flen
  simp [b__law_right, wipe]
  refine got_lc_of dl (fun r => dl (srt r)) rfl (by omega) (fun r hrr => ?_) ?_
  · have := hr r hrr
    simp [eYes, sortD_dis (l := r) (by omega)]
  have em : L.map (fun r => dl (srt r)) = (L.map srt).map dl := by
    rw [List.map_map]
    rfl
  simp only [em]
  have sr := sort_rows (L := L.map srt) (by rw [List.length_map]; omega)
  simp [-List.map_map, sr]
  
  refine got_for (fun i env cs' => cs' = cs ∧ ∃ (pl : List (Nat × Nat)) (y4 y6 : Option D), pl = (L.take i).flatMap lk ∧ env = [some (.cell k), some (dll L), some (di n), some (dll (srtL (L.map srt))), y4, some (.lst (pl.map pr)), y6, none, none, none, none, none, none, none, none, none, none, none])
    ⟨rfl, [], none, none, rfl, rfl⟩ (fun _ _ _ _ _ => rfl) (fun i x env cs' hx hI => ?_) fun env cs' hI => ?_
  · obtain ⟨rfl, pl, y4, y6, epl, rfl⟩ := hI
    rw [List.getElem?_map] at hx
    obtain ⟨row, hrow, rfl⟩ := Option.map_eq_some_iff.mp hx
    have hrm := List.mem_of_getElem? hrow
    have hr1 := hr row hrm
    have hr0 : 0 < row.length := List.length_pos_iff.mpr (S.ne row hrm)
    have ec : (row.length : Int) - 1 = ((row.length - 1 : Nat) : Int) := by omega
    have q1 := lk_len (L.take (i + 1))
    have q2 : (L.take (i + 1)).flatten.length ≤ L.flatten.length := by
      have := List.take_append_drop (i + 1) L
      rw [← this, List.flatten_append, List.length_append]
      simp
    have e3 : pl ++ lk row = (L.take (i + 1)).flatMap lk := by
      rw [List.take_add_one, hrow, List.flatMap_append, epl]
      simp
    rw [← e3, List.length_append] at q1
    have q3 : (lk row).length = row.length - 1 := by rw [List.length_map, List.length_range]
    simp [wipe, ec]
    refine ⟨by omega, ?_⟩
    rw [rng_nat]
    refine got_lc_of di (fun j => pr (row.getD j 0, row.getD (j + 1) 0)) rfl (by rw [List.length_range]; omega) (fun j hj => ?_) ?_
    · have hj' := List.mem_range.mp hj
      have r1 : atI (dis row) (j : Int) = some (di (row.getD j 0)) := atI_nat (by rw [List.getElem?_map, List.getD_eq_getElem?_getD, List.getElem?_eq_getElem (by omega)]; rfl)
      have r2 : atI (dis row) ((j : Int) + 1) = some (di (row.getD (j + 1) 0)) := atI_nat (j := j + 1) (by rw [List.getElem?_map, List.getD_eq_getElem?_getD, List.getElem?_eq_getElem (by omega)]; rfl)
      simp [eYes, r1, r2, -List.getD_eq_getElem?_getD]
    · simp [-List.getD_eq_getElem?_getD]
      refine ⟨by omega, ?_⟩
      rw [← e3, List.map_append, List.map_map]
      rfl
  obtain ⟨rfl, pl, y4, y6, epl, rfl⟩ := hI
  rw [List.length_map, List.take_length] at epl
  subst epl
  have LK := links_of L
  have ll := lk_len L
  generalize L.flatMap lk = ls at LK ll
  simp [wipe]
  refine (ordered_ok h.refl (ls := ls) (by omega) (by omega)).mono fun r hr => ?_
  obtain ⟨l2, cs1, rfl, hm2, hl2, h1⟩ := hr
  have LK2 : Links L l2 := fun x y => (hm2 (x, y)).trans (LK x y)
  simp [wipe]
  refine got_lc_of pr (fun p => tp (exch n p.1 p.2)) rfl (by omega) (fun p hp => ?_) ?_
  · have := S.links LK2 p hp
    simp [eYes]
    refine (exchange_ok this.1 this.2 (by omega)).mono fun r hr => ?_
    subst hr
    simp
  have em2 : l2.map (fun p => tp (exch n p.1 p.2)) = (exs n l2).map tp := by rw [List.map_map]; rfl
  rw [em2]
  have mks := S.mks LK2
  have exl : (exs n l2).length = l2.length := List.length_map ..
  have eR : canon n (Reach (exs n l2)) = srtL (L.map srt) := by
    rw [S.canon]
    exact canon_congr fun p q hp _ => S.reach LK2 hp
  have J1 : ∀ (ch : List (List Nat)), (∀ c ∈ ch, c ∈ L) → ∀ ps : List (Nat × Nat), (∀ x y, (x, y) ∈ ps → ∃ c ∈ ch, Adj c x y ∨ Adj c y x) → (∀ c ∈ ch, ∃ x y, Adj c x y ∧ ((x, y) ∈ ps ∨ (y, x) ∈ ps)) → ∀ x y, Join (exs n l2) ps x y ↔ x = y ∨ Same ch x y := fun ch hc ps h1 h2 x y => S.join1 LK2 hc h1 h2
  generalize exs n l2 = ms at mks exl eR J1
  simp
  refine (rings_of_ok mks (by omega)).mono fun r hr => ?_
  subst hr
  simp [eR]
  have alk : ∀ cs : Cs, got (popped f__law_alike [dll (srtL (L.map srt)), dll (srtL (L.map srt))] cs) fun r => r = .v (.bl true) cs := fun cs => alike_ok fun l hl => by
    rw [← eR] at hl
    have := canon_len l hl
    omega
  refine (alk _).mono fun r hr => ?_
  subst hr
  simp [oNe_same (pure_tps ms) (fit_tps ms), wipe]
  
  refine got_lc (fun i acc cs2 => ∃ ps : List (Nat × Nat), acc = ps.map pr ∧ ps.length = i ∧ Hs cs' k (t + 1002 + i) [] cs2 ∧ Flips l2 ps) ⟨[], rfl, rfl, h1, fun j p q _ hq => by simp at hq⟩ (fun _ _ _ _ _ => rfl) (fun i x acc cs2 hx hI => ?_) fun acc cs2 hI => ?_
  · obtain ⟨ps, rfl, hpl, hs, hpq⟩ := hI
    rw [List.getElem?_map] at hx
    obtain ⟨p, hp, rfl⟩ := Option.map_eq_some_iff.mp hx
    have hi := (List.getElem?_eq_some_iff.mp hp).1
    simp [eYes]
    refine (pick_ok hs (xs := [pr p, pr (p.2, p.1)]) (by simp) rfl (by simp) (by omega)).mono fun r hr => ?_
    obtain ⟨q, cs3, rfl, hq, hs3⟩ := hr
    obtain ⟨q', hq', rfl⟩ : ∃ q' : Nat × Nat, (q' = p ∨ q' = (p.2, p.1)) ∧ q = pr q' := by
      simp at hq
      rcases hq with rfl | rfl
      · exact ⟨p, .inl rfl, rfl⟩
      · exact ⟨(p.2, p.1), .inr rfl, rfl⟩
    exact ⟨_, _, rfl, by omega, ps ++ [q'], by simp, by simp [hpl], hs3, hpq.add hpl hp hq'⟩
  obtain ⟨ps, rfl, hpl, h2, hpq⟩ := hI
  rw [List.length_map] at hpl h2
  have p1 : ∀ x y, (x, y) ∈ ps → (x, y) ∈ l2 ∨ (y, x) ∈ l2 := fun x y hxy => by
    obtain ⟨j, hj⟩ := List.getElem?_of_mem hxy
    have hjl := (List.getElem?_eq_some_iff.mp hj).1
    obtain ⟨p, hp⟩ : ∃ p, l2[j]? = some p := ⟨_, List.getElem?_eq_getElem (by omega)⟩
    have hpm := List.mem_of_getElem? hp
    rcases hpq j p (x, y) hp hj with e | e
    · exact .inl (e ▸ hpm)
    · obtain ⟨u, v⟩ := p
      cases e
      exact .inr hpm
  have p2 : ∀ x y, (x, y) ∈ l2 → (x, y) ∈ ps ∨ (y, x) ∈ ps := fun x y hxy => by
    obtain ⟨j, hj⟩ := List.getElem?_of_mem hxy
    have hjl := (List.getElem?_eq_some_iff.mp hj).1
    obtain ⟨p, hp⟩ : ∃ p, ps[j]? = some p := ⟨_, List.getElem?_eq_getElem (by omega)⟩
    have hpm := List.mem_of_getElem? hp
    rcases hpq j (x, y) p hj hp with e | e
    · exact .inl (e ▸ hpm)
    · exact .inr (e ▸ hpm)
  have eJ : canon n (Join [] ps) = srtL (L.map srt) := by
    rw [S.canon]
    exact canon_congr fun p q hp _ => S.join0 LK2 p1 p2 hp
  have plt : ∀ p ∈ ps, p.1 < n ∧ p.2 < n := fun p hp => by
    rcases p1 p.1 p.2 hp with e | e
    · exact S.links LK2 _ e
    · exact ⟨(S.links LK2 _ e).2, (S.links LK2 _ e).1⟩
  simp
  have fo := finest_ok (cs := cs2) (ms := []) (ps := ps) (n := n) (fun m hm => absurd hm List.not_mem_nil) (by omega) plt (by simp; omega) (by simp)
  rw [List.map_nil] at fo
  refine fo.mono fun r hr => ?_
  subst hr
  simp [eJ]
  refine (alk _).mono fun r hr => ?_
  subst hr
  have ppure : (D.lst (ps.map pr)).pure = true := pairs_pure ps
  simp [oNe_same ppure (fit_prs ps)]
  refine (some_rows_ok h2 (rows := L) (by omega) (fun r hrr => by have := hr r hrr; omega) (by omega)).mono fun r hr' => ?_
  obtain ⟨few, ch, cs3, rfl, hsub, hfl, hc1, hc2, h3⟩ := hr'
  simp [wipe]
  have chL : ∀ c ∈ ch, c ∈ L := fun c hc => hsub.subset hc
  have chl : ch.length ≤ n := Nat.le_trans hsub.length_le hl
  have inn : ∀ (x : Nat) (cs : Cs) (r : List Nat), oIn cs (di x) (dl r) = some (.bl (decide (x ∈ r))) := fun x cs r => by
    unfold oIn
    rw [frozen_pure (show (di x).pure = true from rfl), frozen_pure (show (dl r).pure = true from pures_dis r)]
    have f1 := fit_di x
    have f2 := fit_dl r
    simp [f1, f2]
    exact ⟨fun ⟨a, ha, e⟩ => by
      have : a = x := by omega
      exact this ▸ ha, fun h => ⟨x, h, rfl⟩⟩
  refine ⟨by omega, ?_⟩
  rw [rng_nat]
  refine got_lc_if di di (fun x => !(ch.any fun r => decide (x ∈ r))) rfl (by rw [List.length_range]; omega) (fun x hx => ?_) ?_
  · simp [wipe]
    refine got_lc_of dl (fun r => .bl (decide (x ∈ r))) rfl (by omega) (fun r hr => ?_) ?_
    · simp [eYes, inn]
    · simp [boolsOf_map]
  have aln : ((List.range n).filter fun x => !(ch.any fun r => decide (x ∈ r))).Nodup := List.nodup_range.filter _
  have alm : ∀ x, x ∈ ((List.range n).filter fun x => !(ch.any fun r => decide (x ∈ r))) ↔ x < n ∧ ∀ c ∈ ch, x ∉ c := fun x => by
    rw [List.mem_filter, List.mem_range]
    simp
  generalize (List.range n).filter (fun x => !(ch.any fun r => decide (x ∈ r))) = al at aln alm
  have all : al.length ≤ n := nodup_lt aln fun x hx => ((alm x).mp hx).1
  have S2 : Sh n (ch ++ al.map fun x => [x]) := by
    have fl : (ch ++ al.map fun x => [x]).flatten = ch.flatten ++ al := by
      rw [List.flatten_append]
      rw [singles_flat]
    refine ⟨fun r hr => ?_, ?_⟩
    · rcases List.mem_append.mp hr with h | h
      · exact S.ne r (chL r h)
      · obtain ⟨x, _, rfl⟩ := List.mem_map.mp h
        exact List.cons_ne_nil _ _
    · rw [fl]
      refine (List.perm_ext_iff_of_nodup ?_ List.nodup_range).mpr fun x => ?_
      · rw [List.nodup_append]
        refine ⟨S.nodup.sublist (flat_sub hsub), aln, fun a ha b hb e => ?_⟩
        obtain ⟨c, hc, hac⟩ := List.mem_flatten.mp ha
        exact ((alm b).mp hb).2 c hc (e ▸ hac)
      · rw [List.mem_append, List.mem_range, alm]
        constructor
        · rintro (h | h)
          · obtain ⟨c, hc, hac⟩ := List.mem_flatten.mp h
            exact S.lt (chL c hc) hac
          · exact h.1
        · intro hx
          by_cases hh : ∃ c ∈ ch, x ∈ c
          · obtain ⟨c, hc, hxc⟩ := hh
            exact .inl (List.mem_flatten.mpr ⟨c, hc, hxc⟩)
          · exact .inr ⟨hx, fun c hc hxc => hh ⟨c, hc, hxc⟩⟩
  have eC : canon n (Join ms few) = srtL ((ch ++ al.map fun x => [x]).map srt) := by
    rw [S2.canon]
    refine canon_congr fun p q hp _ => (J1 ch chL few hc2 hc1 p q).trans ⟨?_, ?_⟩
    · rintro (e | ⟨c, hc, h1, h2⟩)
      · subst e
        exact S2.refl hp
      · exact ⟨c, List.mem_append_left _ hc, h1, h2⟩
    · rintro ⟨c, hc, h1, h2⟩
      rcases List.mem_append.mp hc with h | h
      · exact .inr ⟨c, h, h1, h2⟩
      · obtain ⟨x, _, rfl⟩ := List.mem_map.mp h
        rw [List.mem_singleton] at h1 h2
        exact .inl (h1.trans h2.symm)
  have flt : ∀ p ∈ few, p.1 < n ∧ p.2 < n := fun p hp => by
    obtain ⟨c, hc, ha⟩ := hc2 p.1 p.2 hp
    rcases ha with ha | ha
    · exact ⟨S.lt (chL c hc) ha.mem.1, S.lt (chL c hc) ha.mem.2⟩
    · exact ⟨S.lt (chL c hc) ha.mem.2, S.lt (chL c hc) ha.mem.1⟩
  simp [wipe]
  refine got_lc_of dl (fun r => dl (srt r)) rfl (by omega) (fun r hrr => ?_) ?_
  · have := hr r (chL r hrr)
    simp [eYes, sortD_dis (l := r) (by omega)]
  simp [wipe]
  refine got_lc_of di (fun x => dl [x]) rfl (by omega) (fun x hx => ?_) ?_
  · simp [eYes]
  have em3 : ch.map (fun r => dl (srt r)) ++ al.map (fun x => dl [x]) = ((ch ++ al.map fun x => [x]).map srt).map dl := by
    rw [List.map_append, List.map_append, List.map_map, List.map_map, List.map_map]
    congr 1
    refine List.map_congr_left fun x _ => ?_
    show dl [x] = dl (srt [x])
    rw [show srt [x] = [x] from List.mergeSort_singleton _]
  have sr2 := sort_rows (L := (ch ++ al.map fun x => [x]).map srt) (by rw [List.length_map, List.length_append, List.length_map]; omega)
  rw [← em3] at sr2
  have nm : n * ms.length < 100000 := by
    have : n * ms.length ≤ 100 * 200 := Nat.mul_le_mul (by omega) (by omega)
    omega
  have alk2 : ∀ cs : Cs, got (popped f__law_alike [dll (srtL ((ch ++ al.map fun x => [x]).map srt)), dll (srtL ((ch ++ al.map fun x => [x]).map srt))] cs) fun r => r = .v (.bl true) cs := fun cs => alike_ok fun l hl => by
    rw [← eC] at hl
    have := canon_len l hl
    omega
  generalize srtL ((ch ++ al.map fun x => [x]).map srt) = due2 at eC sr2 alk2
  simp [sr2]
  refine ⟨by omega, ?_⟩
  refine (finest_ok mks (by omega) flt (by omega) (by omega)).mono fun r hr => ?_
  subst hr
  simp [eC]
  refine (alk2 _).mono fun r hr => ?_
  subst hr
  simp [oEq_same (pure_tps ms) (fit_tps ms)]
  exact ⟨_, _, _, ⟨rfl, rfl⟩, h3.mono (by omega), _, frozen_pure rfl, fun cs4 h4 => ⟨cs4, ⟨rfl, rfl⟩, h.trans h4⟩⟩
end k29
end
section
set_option linter.all false
set_option maxHeartbeats 4000000
namespace k29
open PySem Mi
theorem Hs.init {cs : Cs} {a s c : Int} (h1 : 0 ≤ a) (h2 : 0 ≤ s) (h3 : s < 2147483647) (h4 : c = 0) : Hs (cs ++ [hnd a s c]) cs.length 0 [] (cs ++ [hnd a s c]) := by
  refine ⟨a, s, c, ?_, by simp, h1, h2, h3, by omega, by omega⟩
  rw [List.append_nil, one_set]
def p60 : Int := 10 ^ 60
def p18 : Int := 10 ^ 18
def far : Int := p60 * p60 * p60 * p60
theorem pow60 {cs : Cs} : oPow cs (.int 10) (.int 60) = some (.int p60) := rfl
theorem pow18 {cs : Cs} : oPow cs (.int 10) (.int 18) = some (.int p18) := rfl
theorem mul1 {cs : Cs} : oMul cs (.int p60) (.int p60) = some (.int (p60 * p60)) := by
  rw [oMul_i, if_pos (by decide +kernel)]
theorem mul2 {cs : Cs} : oMul cs (.int (p60 * p60)) (.int p60) = some (.int (p60 * p60 * p60)) := by
  rw [oMul_i, if_pos (by decide +kernel)]
theorem mul3 {cs : Cs} : oMul cs (.int (p60 * p60 * p60)) (.int p60) = some (.int far) := by
  rw [oMul_i, if_pos (by decide +kernel), far]
theorem far_pos : 0 < far := by decide +kernel
theorem far_lt : far < 2 ^ 900 := by decide +kernel
theorem log_far {i : Int} (h0 : 0 ≤ i) (h : i < far) : i.natAbs.log2 < 900 := by
  have h2 : i.natAbs < 2 ^ 900 := by
    have := Int.lt_trans h far_lt
    have e : ((2 : Int) ^ 900) = ((2 ^ 900 : Nat) : Int) := by decide +kernel
    rw [e] at this
    omega
  by_cases hi : i.natAbs = 0
  · rw [hi]
    decide
  · exact (Nat.log2_lt hi).mpr h2
theorem hand_ok {cs : Cs} {ns : List Int} {k : Nat} (hk : k < 1000) :
    got (f__law_hand [.fro (ns.map .int), di k] cs) fun r => ∃ a s : Int, r = .v (.cell cs.length) (cs ++ [hnd a s 0]) ∧ 0 ≤ a ∧ 0 ≤ s ∧ s < 2147483647 := by
  refine got_fn rfl ?_
  have core : ∀ c : Int, got (sSeq (sSet 3 (e2 oMul (e2 oMul (e2 oMul (e2 oPow (eC (.int 10)) (eC (.int 60))) (e2 oPow (eC (.int 10)) (eC (.int 60)))) (e2 oPow (eC (.int 10)) (eC (.int 60)))) (e2 oPow (eC (.int 10)) (eC (.int 60)))))
    (sSeq (sSet 4 (e2 oMod (e2 oMul (e2 oAdd (e2 oAdd (e2 oMod (eVar 2) (eC (.int 2147483629))) (e2 oMul (eC (.int 7919)) (eVar 1))) (eC (.int 11))) (eC (.int 48271))) (eC (.int 2147483647))))
    (sRet (eLc (lDisp (aCons (e2 oMul (e2 oMod (e1 oAbs (eVar 2)) (eVar 3)) (e1 oInt (e2 oGe (e1 oAbs (eVar 2)) (e2 oPow (eC (.int 10)) (eC (.int 18)))))) (aCons (eVar 4) (aCons (eC (.int 0)) aNil))))))) [some (.fro (ns.map .int)), some (di k), some (.int c), none, none] cs)
      (fnK fun r => ∃ a s : Int, r = .v (.cell cs.length) (cs ++ [hnd a s 0]) ∧ 0 ≤ a ∧ 0 ≤ s ∧ s < 2147483647) := by
    intro c
    generalize ea : (if c < 0 then -c else c) = ac
    have a1 : 0 ≤ ac % far := Int.emod_nonneg _ (by have := far_pos; omega)
    have a2 : ac % far < far := Int.emod_lt_of_pos _ far_pos
    have la := log_far a1 a2
    have c0 : 0 ≤ c % 2147483629 := Int.emod_nonneg _ (by omega)
    have c1 : c % 2147483629 < 2147483629 := Int.emod_lt_of_pos _ (by omega)
    have l1 : (7919 : Int).natAbs.log2 + (k : Int).natAbs.log2 < 1000000 := by
      have h1 : (7919 : Int).natAbs.log2 < 128 := log_lt_i (by omega) (by omega)
      have h2 : (k : Int).natAbs.log2 < 128 := log_lt_i (by omega) (by omega)
      omega
    have l2 : (c % 2147483629 + 7919 * (k : Int) + 11).natAbs.log2 + (48271 : Int).natAbs.log2 < 1000000 := by
      have h1 : (48271 : Int).natAbs.log2 < 128 := log_lt_i (by omega) (by omega)
      have h2 : (c % 2147483629 + 7919 * (k : Int) + 11).natAbs.log2 < 128 := log_lt_i (by omega) (by omega)
      omega
    have e1 : oMul cs (.int 7919) (.int k) = some (.int (7919 * (k : Int))) := by rw [oMul_i, if_pos l1]
    have e2 : oMul cs (.int (c % 2147483629 + 7919 * (k : Int) + 11)) (.int 48271) = some (.int ((c % 2147483629 + 7919 * (k : Int) + 11) * 48271)) := by rw [oMul_i, if_pos l2]
    have e3 : ∀ b : Bool, oMul cs (.int (ac % far)) (.int (if b = true then 1 else 0)) = some (.int (ac % far * (if b = true then 1 else 0))) := fun b => by
      rw [oMul_i, if_pos]
      cases b
      · show (ac % far).natAbs.log2 + Nat.log2 0 < 1000000
        have : Nat.log2 0 = 0 := by decide
        omega
      · show (ac % far).natAbs.log2 + Nat.log2 1 < 1000000
        have : Nat.log2 1 = 0 := by decide
        omega
    have fp := far_pos
    simp only [got_sSeq, got_sSet, got_e2, got_e1, got_eC, got_eVar, kont_v, got_bnd, got_out, got_some, pow60, pow18, mul1, mul2, mul3, kontS_v, seqK_nx, List.set_cons_succ, List.set_cons_zero, List.getElem?_cons_succ, List.getElem?_cons_zero, Option.bind_some, id_eq,
      oMod_i, oAdd_i, oAbs_i, oGe_i, oInt_b, e1, e2, ea, e3, fp, if_true, got_sRet, got_eLc, got_lDisp, got_aCons, got_aNil]
    have m1 : (0 : Int) < 2147483629 := by omega
    have m2 : (0 : Int) < 2147483647 := by omega
    simp only [m1, m2, if_true, got_some, oAdd_i, e2, oMod_i, List.length_cons, List.length_nil, SIZE_eq, Nat.reduceAdd, Nat.reduceLeDiff, kont_v, kontS_v, fnK_rt]
    refine ⟨_, _, rfl, ?_, Int.emod_nonneg _ (by omega), Int.emod_lt_of_pos _ m2⟩
    split
    · rw [Int.mul_one]
      exact a1
    · rw [Int.mul_zero]
      exact Int.le_refl _
  by_cases hkn : k < ns.length
  · have hi : atI (ns.map D.int) (k : Int) = some (.int ns[k]) := atI_nat (by rw [List.getElem?_map, List.getElem?_eq_getElem hkn]; rfl)
    have := core ns[k]
    simp [b__law_hand, hkn, hi]
    simp at this
    exact this
  · have := core 0
    simp [b__law_hand, hkn]
    simp at this
    exact this
theorem law_ok (ns : List Int) (hn : ns.length ≤ 63) : ∃ cs : Cs, f_law [.fro (ns.map .int)] [] = some (.v (.bl true) cs) := by
  have : got (f_law [.fro (ns.map .int)] []) fun r => ∃ cs, r = .v (.bl true) cs := by
    refine got_fn rfl ?_
    generalize es : (1 + (if ((ns.map D.int).length : Int) < 2 then ((ns.map D.int).length : Int) else 2)) = lim
    obtain ⟨m, hm, rfl⟩ : ∃ m : Nat, m < 4 ∧ lim = (m : Int) := by
      refine ⟨lim.toNat, ?_, ?_⟩
      · rw [← es]
        split <;> omega
      · rw [← es]
        split <;> omega
    simp [b_law]
    simp at es
    rw [es]
    refine ⟨by simp; omega, got_for (fun i env cs => ∃ y1 y2 y3 : Option D, env = [some (.fro (ns.map .int)), y1, y2, y3]) ⟨none, none, none, rfl⟩ (fun _ _ _ _ _ => rfl) (fun i x env cs hx hI => ?_) fun env cs hI => ?_⟩
    · obtain ⟨y1, y2, y3, rfl⟩ := hI
      obtain ⟨hi, rfl⟩ := rng_at hx
      simp
      refine (hand_ok (by omega)).mono fun r hr => ?_
      obtain ⟨a, s, rfl, h1, h2, h3⟩ := hr
      have H := Hs.init (cs := cs) h1 h2 h3 (c := 0) rfl
      simp
      refine (take_ok H (m := 59) (by omega) (by omega) (by omega)).mono fun r hr => ?_
      obtain ⟨d, cs2, rfl, hd, H2⟩ := hr
      obtain ⟨n, en⟩ : ∃ n, n = 2 + d := ⟨_, rfl⟩
      have ec : (2 : Int) + (d : Int) = (n : Int) := by omega
      simp [ec]
      refine (rows_ok H2 (n := n) (by omega) (by omega) (by omega)).mono fun r hr => ?_
      obtain ⟨rows, cs3, rfl, hne, hp, H3⟩ := hr
      simp
      refine (right_ok H3 ⟨hne, hp⟩ (by omega) (by omega)).mono fun r hr => ?_
      obtain ⟨cs4, rfl, H4⟩ := hr
      simp
    · obtain ⟨y1, y2, y3, rfl⟩ := hI
      simp
  obtain ⟨r, e, cs, rfl⟩ := this
  exact ⟨cs, e⟩
end k29
end
section
set_option Elab.async false
set_option linter.all false
set_option maxRecDepth 100000
set_option maxHeartbeats 4000000
namespace k29
open PySem PySem.Spec PyProof.Rows L2 Mi Br
def topS (i : Nat) : Stmt := PySem.Challenge.pw_turnbase_k29_chains_from_the_far_end.main.body.getD i (.Pass ⟨0, 0, 0, 0⟩)
theorem sc_ring_from : FnScope ["place", "makers", "found", "seen", "at", "one", "to"] ["place", "makers"] (defScope (topS 1)) := ⟨rfl, rfl, rfl, by decide +kernel, rfl, by decide +kernel, by decide +kernel⟩
theorem sc_rings_of : FnScope ["many", "makers", "rings", "seen", "place", "ring", "other"] ["many", "makers"] (defScope (topS 2)) := ⟨rfl, rfl, rfl, by decide +kernel, rfl, by decide +kernel, by decide +kernel⟩
theorem sc_parts_by : FnScope ["marks", "parts", "place"] ["marks"] (defScope (topS 3)) := ⟨rfl, rfl, rfl, by decide +kernel, rfl, by decide +kernel, by decide +kernel⟩
theorem sc_finest : FnScope ["many", "makers", "pairs", "marks", "tasks", "at", "one", "other", "kept", "gone", "mark", "maker"] ["many", "makers", "pairs"] (defScope (topS 4)) := ⟨rfl, rfl, rfl, by decide +kernel, rfl, by decide +kernel, by decide +kernel⟩
theorem sc__law_hand : FnScope ["script", "k", "cell", "far", "seed"] ["script", "k"] (defScope (topS 6)) := ⟨rfl, rfl, rfl, by decide +kernel, rfl, by decide +kernel, by decide +kernel⟩
theorem sc__law_take : FnScope ["hand", "many", "digit"] ["hand", "many"] (defScope (topS 7)) := ⟨rfl, rfl, rfl, by decide +kernel, rfl, by decide +kernel, by decide +kernel⟩
theorem sc__law_pick : FnScope ["hand", "some"] ["hand", "some"] (defScope (topS 8)) := ⟨rfl, rfl, rfl, by decide +kernel, rfl, by decide +kernel, by decide +kernel⟩
theorem sc__law_turning : FnScope ["hand", "many", "found", "k"] ["hand", "many"] (defScope (topS 9)) := ⟨rfl, rfl, rfl, by decide +kernel, rfl, by decide +kernel, by decide +kernel⟩
theorem sc__law_rows : FnScope ["hand", "many", "strewn", "cuts", "turn", "k"] ["hand", "many"] (defScope (topS 10)) := ⟨rfl, rfl, rfl, by decide +kernel, rfl, by decide +kernel, by decide +kernel⟩
theorem sc__law_ordered : FnScope ["hand", "some", "mode", "k"] ["hand", "some"] (defScope (topS 11)) := ⟨rfl, rfl, rfl, by decide +kernel, rfl, by decide +kernel, by decide +kernel⟩
theorem sc__law_exchange : FnScope ["one", "other", "many", "row"] ["one", "other", "many"] (defScope (topS 12)) := ⟨rfl, rfl, rfl, by decide +kernel, rfl, by decide +kernel, by decide +kernel⟩
theorem sc__law_alike : FnScope ["found", "due", "part", "x"] ["found", "due"] (defScope (topS 13)) := ⟨rfl, rfl, rfl, by decide +kernel, rfl, by decide +kernel, by decide +kernel⟩
theorem sc__law_some_rows : FnScope ["hand", "rows", "pairs", "chosen", "row", "at", "pair"] ["hand", "rows"] (defScope (topS 14)) := ⟨rfl, rfl, rfl, by decide +kernel, rfl, by decide +kernel, by decide +kernel⟩
theorem sc__law_right : FnScope ["hand", "rows", "many", "due", "row", "links", "k", "makers", "one", "other", "kept", "pairs", "pair", "told", "few", "chosen", "alone", "x"] ["hand", "rows", "many"] (defScope (topS 15)) := ⟨rfl, rfl, rfl, by decide +kernel, rfl, by decide +kernel, by decide +kernel⟩
theorem sc_law : FnScope ["script", "k", "hand", "many"] ["script"] (defScope (topS 16)) := ⟨rfl, rfl, rfl, by decide +kernel, rfl, by decide +kernel, by decide +kernel⟩
structure Facts (K : PySem.W.Frag) (mg : Str → Option Value) where
  m_abs : mg "abs" = none
  m_all : mg "all" = none
  m_any : mg "any" = none
  m_bool : mg "bool" = none
  m_int : mg "int" = none
  m_isinstance : mg "isinstance" = none
  m_len : mg "len" = none
  m_list : mg "list" = none
  m_min : mg "min" = none
  m_range : mg "range" = none
  m_set : mg "set" = none
  m_sorted : mg "sorted" = none
  m_tuple : mg "tuple" = none
  a_ring_from : Addr
  fd_ring_from : FuncData
  F_ring_from : Fun K "ring_from" "ring_from" (topS 1) a_ring_from fd_ring_from
  g_ring_from : mg "ring_from" = some (.ref a_ring_from)
  b_ring_from : Binds K fd_ring_from ["place", "makers"] []
  a_rings_of : Addr
  fd_rings_of : FuncData
  F_rings_of : Fun K "rings_of" "rings_of" (topS 2) a_rings_of fd_rings_of
  g_rings_of : mg "rings_of" = some (.ref a_rings_of)
  b_rings_of : Binds K fd_rings_of ["many", "makers"] []
  a_parts_by : Addr
  fd_parts_by : FuncData
  F_parts_by : Fun K "parts_by" "parts_by" (topS 3) a_parts_by fd_parts_by
  g_parts_by : mg "parts_by" = some (.ref a_parts_by)
  b_parts_by : Binds K fd_parts_by ["marks"] []
  a_finest : Addr
  fd_finest : FuncData
  F_finest : Fun K "finest" "finest" (topS 4) a_finest fd_finest
  g_finest : mg "finest" = some (.ref a_finest)
  b_finest : Binds K fd_finest ["many", "makers", "pairs"] []
  a__law_hand : Addr
  fd__law_hand : FuncData
  F__law_hand : Fun K "_law_hand" "_law_hand" (topS 6) a__law_hand fd__law_hand
  g__law_hand : mg "_law_hand" = some (.ref a__law_hand)
  b__law_hand : Binds K fd__law_hand ["script", "k"] []
  a__law_take : Addr
  fd__law_take : FuncData
  F__law_take : Fun K "_law_take" "_law_take" (topS 7) a__law_take fd__law_take
  g__law_take : mg "_law_take" = some (.ref a__law_take)
  b__law_take : Binds K fd__law_take ["hand", "many"] []
  a__law_pick : Addr
  fd__law_pick : FuncData
  F__law_pick : Fun K "_law_pick" "_law_pick" (topS 8) a__law_pick fd__law_pick
  g__law_pick : mg "_law_pick" = some (.ref a__law_pick)
  b__law_pick : Binds K fd__law_pick ["hand", "some"] []
  a__law_turning : Addr
  fd__law_turning : FuncData
  F__law_turning : Fun K "_law_turning" "_law_turning" (topS 9) a__law_turning fd__law_turning
  g__law_turning : mg "_law_turning" = some (.ref a__law_turning)
  b__law_turning : Binds K fd__law_turning ["hand", "many"] []
  a__law_rows : Addr
  fd__law_rows : FuncData
  F__law_rows : Fun K "_law_rows" "_law_rows" (topS 10) a__law_rows fd__law_rows
  g__law_rows : mg "_law_rows" = some (.ref a__law_rows)
  b__law_rows : Binds K fd__law_rows ["hand", "many"] []
  a__law_ordered : Addr
  fd__law_ordered : FuncData
  F__law_ordered : Fun K "_law_ordered" "_law_ordered" (topS 11) a__law_ordered fd__law_ordered
  g__law_ordered : mg "_law_ordered" = some (.ref a__law_ordered)
  b__law_ordered : Binds K fd__law_ordered ["hand", "some"] []
  a__law_exchange : Addr
  fd__law_exchange : FuncData
  F__law_exchange : Fun K "_law_exchange" "_law_exchange" (topS 12) a__law_exchange fd__law_exchange
  g__law_exchange : mg "_law_exchange" = some (.ref a__law_exchange)
  b__law_exchange : Binds K fd__law_exchange ["one", "other", "many"] []
  a__law_alike : Addr
  fd__law_alike : FuncData
  F__law_alike : Fun K "_law_alike" "_law_alike" (topS 13) a__law_alike fd__law_alike
  g__law_alike : mg "_law_alike" = some (.ref a__law_alike)
  b__law_alike : Binds K fd__law_alike ["found", "due"] []
  a__law_some_rows : Addr
  fd__law_some_rows : FuncData
  F__law_some_rows : Fun K "_law_some_rows" "_law_some_rows" (topS 14) a__law_some_rows fd__law_some_rows
  g__law_some_rows : mg "_law_some_rows" = some (.ref a__law_some_rows)
  b__law_some_rows : Binds K fd__law_some_rows ["hand", "rows"] []
  a__law_right : Addr
  fd__law_right : FuncData
  F__law_right : Fun K "_law_right" "_law_right" (topS 15) a__law_right fd__law_right
  g__law_right : mg "_law_right" = some (.ref a__law_right)
  b__law_right : Binds K fd__law_right ["hand", "rows", "many"] []
  a_law : Addr
  fd_law : FuncData
  F_law : Fun K "law" "law" (topS 16) a_law fd_law
  g_law : mg "law" = some (.ref a_law)
  b_law : Binds K fd_law ["script"] []
section
variable {P : Program} {w : World} {K : PySem.W.Frag} {T : Br.Tab} {mg : Str → Option Value} {base : Heap}
theorem ok_ring_from (Z : Facts K mg) : FnOk P w K mg base (L2.CX P w) 1 Z.a_ring_from Z.fd_ring_from ["place", "makers"] (Br.spM K T f_ring_from) := by
  refine br_def (N := ["place", "makers", "found", "seen", "at", "one", "to"]) (b := b_ring_from) Z.F_ring_from sc_ring_from fun cdv A outer s H E hr => ?_
  have nd := sc_ring_from.nd
  have tk := takes_of (E := E) (X := cxOf (L2.CX P w) P w K mg base ["place", "makers", "found", "seen", "at", "one", "to"] "ring_from" (defScope (topS 1)) Z.a_ring_from cdv A outer s H E) rfl rfl rfl rfl
  have po := passes_of (X := cxOf (L2.CX P w) P w K mg base ["place", "makers", "found", "seen", "at", "one", "to"] "ring_from" (defScope (topS 1)) Z.a_ring_from cdv A outer s H E) rfl
  have hu := hu_of hr
  have hu64 := hr.units
  have hu65 := hu65_of hr
  have hu66 := hu66_of hr
  exact (bss_cons (bs_set (i := 2) nd rfl (.inl rfl) (br_Lc (br_lst (br_acons (br_var 0 (.inl rfl)) br_anil))))
      (bss_cons (bs_set (i := 3) nd rfl (.inl rfl) (br_dict (.cons (br_var 0 (.inl rfl)) br_bl .nil) (by exact List.cons_ne_nil _ _) (by decide)))
      (bss_cons (bs_set (i := 4) nd rfl (.inl rfl) br_int)
      (bss_cons (bs_while po (bt_cmp op_lt o_lt (br_var 4 (.inl rfl)) (bB_1 call_len_seq o_len (by rfl) Z.m_len PySem.boot_len (br_var 2 (.inl rfl))) (nomark _)) (bss_cons (bs_for po (by rfl) (bi_list (br_var 1 (.inl rfl))) (bg_name (i := 5) nd rfl (.inl rfl)) (bss_cons (bs_set (i := 6) nd rfl (.inl rfl) (br_ix (br_var 5 (.inl rfl)) (br_ix (br_var 2 (.inl rfl)) (br_var 4 (.inl rfl)) (fun _ _ => rfl)) (fun _ _ => rfl)))
      (bss_one (bs_if (bt_dnotin hu (br_var 6 (.inl rfl)) (br_var 3 (.inl rfl))) (bss_cons (bs_putD hu (br_var 3 (.inl rfl)) (br_var 6 (.inl rfl)) br_bl)
      (bss_one (bs_expr (br_m PySem.F.plainAttrs_list PySem.F.slot_list_append PySem.F.type_list_append mt_append ok_list o_append (br_var 2 (.inl rfl)) (br_acons (br_var 6 (.inl rfl)) br_anil))))) bss_nil))))
      (bss_one (bs_aug (i := 4) nd rfl (.inl rfl) br_int ip_add g_add))))
      (bss_one (bs_ret (br_L (bl_sorted hu66 (by rfl) Z.m_sorted (br_var 2 (.inl rfl))))))))))
theorem ok_rings_of (Z : Facts K mg) : FnOk P w K mg base (L2.CX P w) 2 Z.a_rings_of Z.fd_rings_of ["many", "makers"] (Br.spM K T f_rings_of) := by
  refine br_def (N := ["many", "makers", "rings", "seen", "place", "ring", "other"]) (b := b_rings_of) Z.F_rings_of sc_rings_of fun cdv A outer s H E hr => ?_
  have nd := sc_rings_of.nd
  have tk := takes_of (E := E) (X := cxOf (L2.CX P w) P w K mg base ["many", "makers", "rings", "seen", "place", "ring", "other"] "rings_of" (defScope (topS 2)) Z.a_rings_of cdv A outer s H E) rfl rfl rfl rfl
  have po := passes_of (X := cxOf (L2.CX P w) P w K mg base ["many", "makers", "rings", "seen", "place", "ring", "other"] "rings_of" (defScope (topS 2)) Z.a_rings_of cdv A outer s H E) rfl
  have hu := hu_of hr
  have hu64 := hr.units
  have hu65 := hu65_of hr
  have hu66 := hu66_of hr
  exact (bss_cons (bs_set (i := 2) nd rfl (.inl rfl) (br_Lc (br_lst br_anil)))
      (bss_cons (bs_set (i := 3) nd rfl (.inl rfl) br_dict0)
      (bss_cons (bs_for po (by rfl) (bi_range (by rfl) Z.m_range (br_var 0 (.inl rfl))) (bg_name (i := 4) nd rfl (.inl rfl)) (bss_one (bs_if (bt_dnotin hu (br_var 4 (.inl rfl)) (br_var 3 (.inl rfl))) (bss_cons (bs_set (i := 5) nd rfl (.inl rfl) (br_call (FnOk.pop (ok_ring_from Z)) (hr.mono (by decide)) (by rfl) Z.g_ring_from Z.F_ring_from.kp Z.b_ring_from tk (br_acons (br_var 4 (.inl rfl)) (br_acons (br_var 1 (.inl rfl)) br_anil))))
      (bss_cons (bs_for po (by rfl) (bi_list (br_var 5 (.inl rfl))) (bg_name (i := 6) nd rfl (.inl rfl)) (bss_one (bs_putD hu (br_var 3 (.inl rfl)) (br_var 6 (.inl rfl)) br_bl)))
      (bss_one (bs_expr (br_m PySem.F.plainAttrs_list PySem.F.slot_list_append PySem.F.type_list_append mt_append ok_list o_append (br_var 2 (.inl rfl)) (br_acons (br_var 5 (.inl rfl)) br_anil)))))) bss_nil)))
      (bss_one (bs_ret (br_var 2 (.inl rfl)))))))
theorem ok_parts_by (Z : Facts K mg) : FnOk P w K mg base (L2.CX P w) 1 Z.a_parts_by Z.fd_parts_by ["marks"] (Br.spM K T f_parts_by) := by
  refine br_def (N := ["marks", "parts", "place"]) (b := b_parts_by) Z.F_parts_by sc_parts_by fun cdv A outer s H E hr => ?_
  have nd := sc_parts_by.nd
  have tk := takes_of (E := E) (X := cxOf (L2.CX P w) P w K mg base ["marks", "parts", "place"] "parts_by" (defScope (topS 3)) Z.a_parts_by cdv A outer s H E) rfl rfl rfl rfl
  have po := passes_of (X := cxOf (L2.CX P w) P w K mg base ["marks", "parts", "place"] "parts_by" (defScope (topS 3)) Z.a_parts_by cdv A outer s H E) rfl
  have hu := hu_of hr
  have hu64 := hr.units
  have hu65 := hu65_of hr
  have hu66 := hu66_of hr
  exact (bss_cons (bs_set (i := 1) nd rfl (.inl rfl) br_dict0)
      (bss_cons (bs_for po (by rfl) (bi_range (by rfl) Z.m_range (bB_1 call_len_seq o_len (by rfl) Z.m_len PySem.boot_len (br_var 0 (.inl rfl)))) (bg_name (i := 2) nd rfl (.inl rfl)) (bss_one (bs_if (bt_din hu (br_ix (br_var 0 (.inl rfl)) (br_var 2 (.inl rfl)) (fun _ _ => rfl)) (br_var 1 (.inl rfl))) (bss_one (bs_expr (br_m PySem.F.plainAttrs_list PySem.F.slot_list_append PySem.F.type_list_append mt_append ok_list o_append (br_dget hu (br_var 1 (.inl rfl)) (br_ix (br_var 0 (.inl rfl)) (br_var 2 (.inl rfl)) (fun _ _ => rfl)) (fun _ _ => rfl)) (br_acons (br_var 2 (.inl rfl)) br_anil)))) (bss_one (bs_putD hu (br_var 1 (.inl rfl)) (br_ix (br_var 0 (.inl rfl)) (br_var 2 (.inl rfl)) (fun _ _ => rfl)) (br_Lc (br_lst (br_acons (br_var 2 (.inl rfl)) br_anil))))))))
      (bss_one (bs_ret (br_L (bl_vals (by rfl) (br_var 1 (.inl rfl)) (by rfl) Z.m_list))))))
theorem ok_finest (Z : Facts K mg) : FnOk P w K mg base (L2.CX P w) 2 Z.a_finest Z.fd_finest ["many", "makers", "pairs"] (Br.spM K T f_finest) := by
  refine br_def (N := ["many", "makers", "pairs", "marks", "tasks", "at", "one", "other", "kept", "gone", "mark", "maker"]) (b := b_finest) Z.F_finest sc_finest fun cdv A outer s H E hr => ?_
  have nd := sc_finest.nd
  have tk := takes_of (E := E) (X := cxOf (L2.CX P w) P w K mg base ["many", "makers", "pairs", "marks", "tasks", "at", "one", "other", "kept", "gone", "mark", "maker"] "finest" (defScope (topS 4)) Z.a_finest cdv A outer s H E) rfl rfl rfl rfl
  have po := passes_of (X := cxOf (L2.CX P w) P w K mg base ["many", "makers", "pairs", "marks", "tasks", "at", "one", "other", "kept", "gone", "mark", "maker"] "finest" (defScope (topS 4)) Z.a_finest cdv A outer s H E) rfl
  have hu := hu_of hr
  have hu64 := hr.units
  have hu65 := hu65_of hr
  have hu66 := hu66_of hr
  exact (bss_cons (bs_set (i := 3) nd rfl (.inl rfl) (br_L (br_listRange (by rfl) (by rfl) Z.m_list (by rfl) Z.m_range (br_var 0 (.inl rfl)))))
      (bss_cons (bs_set (i := 4) nd rfl (.inl rfl) (br_Lc (br_list (by rfl) Z.m_list (br_var 2 (.inl rfl)))))
      (bss_cons (bs_set (i := 5) nd rfl (.inl rfl) br_int)
      (bss_cons (bs_while po (bt_cmp op_lt o_lt (br_var 5 (.inl rfl)) (bB_1 call_len_seq o_len (by rfl) Z.m_len PySem.boot_len (br_var 4 (.inl rfl))) (nomark _)) (bss_cons (bs_asg (br_ix (br_var 4 (.inl rfl)) (br_var 5 (.inl rfl)) (fun _ _ => rfl)) (bg_tup (by rfl) (bgs_cons (bg_name (i := 6) nd rfl (.inr rfl)) (bgs_cons (bg_name (i := 7) nd rfl (.inr rfl)) bgs_nil))))
      (bss_cons (bs_aug (i := 5) nd rfl (.inl rfl) br_int ip_add g_add)
      (bss_cons (bs_set (i := 8) nd rfl (.inr rfl) (br_ix (br_var 3 (.inl rfl)) (br_var 6 (.inr (.inl rfl))) (fun _ _ => rfl)))
      (bss_cons (bs_set (i := 9) nd rfl (.inr rfl) (br_ix (br_var 3 (.inl rfl)) (br_var 7 (.inr (.inl rfl))) (fun _ _ => rfl)))
      (bss_one (bs_if (bt_cmp op_ne o_neS (br_var 8 (.inr (.inl rfl))) (br_var 9 (.inr (.inl rfl))) (nomark _)) (bss_cons (bs_setComp (i := 3) rfl rfl (sw_true rfl rfl rfl (by decide +kernel)) (own := [("mark", 10)]) (by rfl) nd (bi_list (br_var 3 (.inl rfl))) (blkOk_by (by rfl)) (fun _ _ _ _ _ => (cg_name (i := 10) (by decide) nd rfl (.inl rfl))) (fun _ _ _ _ _ => bts_nil) (fun _ _ _ _ _ => (br_ifExp (bt_cmp op_eq o_eqS (br_var 10 (.inl rfl)) (br_var 9 (.inr (.inl rfl))) (nomark _)) (br_var 8 (.inr (.inl rfl))) (br_var 10 (.inl rfl)))))
      (bss_one (bs_expr (br_m PySem.F.plainAttrs_list PySem.F.slot_list_extend PySem.F.type_list_extend mt_extend ok_list o_extend (br_var 4 (.inl rfl)) (br_acons (br_L (bl_comp (own := [("maker", 11)]) (by rfl) nd (bi_list (br_var 1 (.inl rfl))) (blkOk_by (by rfl)) (fun _ _ _ _ _ => (cg_name (i := 11) (by decide) nd rfl (.inl rfl))) (fun _ _ _ _ _ => bts_nil) (fun _ _ _ _ _ => (br_tup (br_acons (br_ix (br_var 11 (.inl rfl)) (br_var 6 (.inr (.inl rfl))) (fun _ _ => rfl)) (br_acons (br_ix (br_var 11 (.inl rfl)) (br_var 7 (.inr (.inl rfl))) (fun _ _ => rfl)) br_anil)))))) br_anil))))) bss_nil)))))))
      (bss_one (bs_ret (br_call (FnOk.pop (ok_parts_by Z)) (hr.mono (by decide)) (by rfl) Z.g_parts_by Z.F_parts_by.kp Z.b_parts_by tk (br_acons (br_var 3 (.inl rfl)) br_anil))))))))
theorem ok__law_hand (Z : Facts K mg) : FnOk P w K mg base (L2.CX P w) 1 Z.a__law_hand Z.fd__law_hand ["script", "k"] (Br.spM K T f__law_hand) := by
  refine br_def (N := ["script", "k", "cell", "far", "seed"]) (b := b__law_hand) Z.F__law_hand sc__law_hand fun cdv A outer s H E hr => ?_
  have nd := sc__law_hand.nd
  have tk := takes_of (E := E) (X := cxOf (L2.CX P w) P w K mg base ["script", "k", "cell", "far", "seed"] "_law_hand" (defScope (topS 6)) Z.a__law_hand cdv A outer s H E) rfl rfl rfl rfl
  have po := passes_of (X := cxOf (L2.CX P w) P w K mg base ["script", "k", "cell", "far", "seed"] "_law_hand" (defScope (topS 6)) Z.a__law_hand cdv A outer s H E) rfl
  have hu := hu_of hr
  have hu64 := hr.units
  have hu65 := hu65_of hr
  have hu66 := hu66_of hr
  exact (bss_cons (bs_set (i := 2) nd rfl (.inl rfl) br_int)
      (bss_cons (bs_if (bt_cmp op_lt o_lt (br_var 1 (.inl rfl)) (bB_1 call_len_seq o_len (by rfl) Z.m_len PySem.boot_len (br_var 0 (.inl rfl))) (nomark _)) (bss_one (bs_set (i := 2) nd rfl (.inl rfl) (br_ix (br_var 0 (.inl rfl)) (br_var 1 (.inl rfl)) (fun _ _ => rfl)))) bss_nil)
      (bss_cons (bs_set (i := 3) nd rfl (.inl rfl) (br_bin op_mulW o_mul (br_bin op_mulW o_mul (br_bin op_mulW o_mul (br_bin op_pow o_pow br_int br_int) (br_bin op_pow o_pow br_int br_int)) (br_bin op_pow o_pow br_int br_int)) (br_bin op_pow o_pow br_int br_int)))
      (bss_cons (bs_set (i := 4) nd rfl (.inl rfl) (br_bin op_mod o_mod (br_bin op_mulW o_mul (br_bin op_add o_add (br_bin op_add o_add (br_bin op_mod o_mod (br_var 2 (.inl rfl)) br_int) (br_bin op_mulW o_mul br_int (br_var 1 (.inl rfl)))) br_int) br_int) br_int))
      (bss_one (bs_ret (br_Lc (br_lst (br_acons (br_bin op_mulW o_mul (br_bin op_mod o_mod (bB_1 call_abs o_abs (by rfl) Z.m_abs PyProof.Rows.boot_abs (br_var 2 (.inl rfl))) (br_var 3 (.inl rfl))) (bT_1 call_int1 o_int1 (by rfl) Z.m_int PyProof.Rows.boot_int (br_cmp op_ge o_ge (bB_1 call_abs o_abs (by rfl) Z.m_abs PyProof.Rows.boot_abs (br_var 2 (.inl rfl))) (br_bin op_pow o_pow br_int br_int) (nomark _)))) (br_acons (br_var 4 (.inl rfl)) (br_acons br_int br_anil)))))))))))
theorem ok__law_take (Z : Facts K mg) : FnOk P w K mg base (L2.CX P w) 1 Z.a__law_take Z.fd__law_take ["hand", "many"] (Br.spM K T f__law_take) := by
  refine br_def (N := ["hand", "many", "digit"]) (b := b__law_take) Z.F__law_take sc__law_take fun cdv A outer s H E hr => ?_
  have nd := sc__law_take.nd
  have tk := takes_of (E := E) (X := cxOf (L2.CX P w) P w K mg base ["hand", "many", "digit"] "_law_take" (defScope (topS 7)) Z.a__law_take cdv A outer s H E) rfl rfl rfl rfl
  have po := passes_of (X := cxOf (L2.CX P w) P w K mg base ["hand", "many", "digit"] "_law_take" (defScope (topS 7)) Z.a__law_take cdv A outer s H E) rfl
  have hu := hu_of hr
  have hu64 := hr.units
  have hu65 := hu65_of hr
  have hu66 := hu66_of hr
  exact (bss_cons (bs_if (bt_cmp op_gt o_gt (br_ix (br_var 0 (.inl rfl)) br_int (fun _ _ => rfl)) br_int (nomark _)) (bss_cons (bs_set (i := 2) nd rfl (.inl rfl) (br_bin op_mod o_mod (br_ix (br_var 0 (.inl rfl)) br_int (fun _ _ => rfl)) (br_var 1 (.inl rfl))))
      (bss_cons (bs_putL (br_var 0 (.inl rfl)) br_int (br_bin op_fdivW o_div (br_ix (br_var 0 (.inl rfl)) br_int (fun _ _ => rfl)) (br_var 1 (.inl rfl))))
      (bss_one (bs_ret (br_var 2 (.inl rfl)))))) bss_nil)
      (bss_cons (bs_putL (br_var 0 (.inl rfl)) br_int (br_bin op_add o_add (br_ix (br_var 0 (.inl rfl)) br_int (fun _ _ => rfl)) br_int))
      (bss_cons (bs_putL (br_var 0 (.inl rfl)) br_int (br_bin op_mod o_mod (br_bin op_add o_add (br_bin op_add o_add (br_bin op_mulW o_mul (br_ix (br_var 0 (.inl rfl)) br_int (fun _ _ => rfl)) br_int) br_int) (br_bin op_mulW o_mul br_int (br_ix (br_var 0 (.inl rfl)) br_int (fun _ _ => rfl)))) br_int))
      (bss_one (bs_ret (br_bin op_mod o_mod (br_bin op_fdivW o_div (br_bin op_mod o_mod (br_bin op_mulW o_mul (br_ix (br_var 0 (.inl rfl)) br_int (fun _ _ => rfl)) (br_bin op_add o_add (br_bin op_mod o_mod (br_ix (br_var 0 (.inl rfl)) br_int (fun _ _ => rfl)) br_int) br_int)) br_int) br_int) (br_var 1 (.inl rfl))))))))
theorem ok__law_pick (Z : Facts K mg) : FnOk P w K mg base (L2.CX P w) 2 Z.a__law_pick Z.fd__law_pick ["hand", "some"] (Br.spM K T f__law_pick) := by
  refine br_def (N := ["hand", "some"]) (b := b__law_pick) Z.F__law_pick sc__law_pick fun cdv A outer s H E hr => ?_
  have nd := sc__law_pick.nd
  have tk := takes_of (E := E) (X := cxOf (L2.CX P w) P w K mg base ["hand", "some"] "_law_pick" (defScope (topS 8)) Z.a__law_pick cdv A outer s H E) rfl rfl rfl rfl
  have po := passes_of (X := cxOf (L2.CX P w) P w K mg base ["hand", "some"] "_law_pick" (defScope (topS 8)) Z.a__law_pick cdv A outer s H E) rfl
  have hu := hu_of hr
  have hu64 := hr.units
  have hu65 := hu65_of hr
  have hu66 := hu66_of hr
  exact (bss_one (bs_ret (br_ix (br_var 1 (.inl rfl)) (br_call (FnOk.pop (ok__law_take Z)) (hr.mono (by decide)) (by rfl) Z.g__law_take Z.F__law_take.kp Z.b__law_take tk (br_acons (br_var 0 (.inl rfl)) (br_acons (bB_1 call_len_seq o_len (by rfl) Z.m_len PySem.boot_len (br_var 1 (.inl rfl))) br_anil))) (fun _ _ => rfl))))
theorem ok__law_turning (Z : Facts K mg) : FnOk P w K mg base (L2.CX P w) 2 Z.a__law_turning Z.fd__law_turning ["hand", "many"] (Br.spM K T f__law_turning) := by
  refine br_def (N := ["hand", "many", "found", "k"]) (b := b__law_turning) Z.F__law_turning sc__law_turning fun cdv A outer s H E hr => ?_
  have nd := sc__law_turning.nd
  have tk := takes_of (E := E) (X := cxOf (L2.CX P w) P w K mg base ["hand", "many", "found", "k"] "_law_turning" (defScope (topS 9)) Z.a__law_turning cdv A outer s H E) rfl rfl rfl rfl
  have po := passes_of (X := cxOf (L2.CX P w) P w K mg base ["hand", "many", "found", "k"] "_law_turning" (defScope (topS 9)) Z.a__law_turning cdv A outer s H E) rfl
  have hu := hu_of hr
  have hu64 := hr.units
  have hu65 := hu65_of hr
  have hu66 := hu66_of hr
  exact (bss_cons (bs_set (i := 2) nd rfl (.inl rfl) (br_Lc (br_lst br_anil)))
      (bss_cons (bs_for po (by rfl) (bi_range (by rfl) Z.m_range (br_var 1 (.inl rfl))) (bg_name (i := 3) nd rfl (.inl rfl)) (bss_one (bs_expr (br_m PySem.F.plainAttrs_list PySem.F.slot_list_insert PySem.F.type_list_insert mt_insert ok_list o_insert (br_var 2 (.inl rfl)) (br_acons (br_call (FnOk.pop (ok__law_take Z)) (hr.mono (by decide)) (by rfl) Z.g__law_take Z.F__law_take.kp Z.b__law_take tk (br_acons (br_var 0 (.inl rfl)) (br_acons (br_bin op_add o_add (br_var 3 (.inl rfl)) br_int) br_anil))) (br_acons (br_var 3 (.inl rfl)) br_anil))))))
      (bss_one (bs_ret (bT_1 call_tuple_of o_tuple (by rfl) Z.m_tuple PyProof.Rows.boot_tuple (br_var 2 (.inl rfl)))))))
theorem ok__law_rows (Z : Facts K mg) : FnOk P w K mg base (L2.CX P w) 3 Z.a__law_rows Z.fd__law_rows ["hand", "many"] (Br.spM K T f__law_rows) := by
  refine br_def (N := ["hand", "many", "strewn", "cuts", "turn", "k"]) (b := b__law_rows) Z.F__law_rows sc__law_rows fun cdv A outer s H E hr => ?_
  have nd := sc__law_rows.nd
  have tk := takes_of (E := E) (X := cxOf (L2.CX P w) P w K mg base ["hand", "many", "strewn", "cuts", "turn", "k"] "_law_rows" (defScope (topS 10)) Z.a__law_rows cdv A outer s H E) rfl rfl rfl rfl
  have po := passes_of (X := cxOf (L2.CX P w) P w K mg base ["hand", "many", "strewn", "cuts", "turn", "k"] "_law_rows" (defScope (topS 10)) Z.a__law_rows cdv A outer s H E) rfl
  have hu := hu_of hr
  have hu64 := hr.units
  have hu65 := hu65_of hr
  have hu66 := hu66_of hr
  exact (bss_cons (bs_set (i := 2) nd rfl (.inr rfl) (br_L (br_list (by rfl) Z.m_list (br_call (FnOk.pop (ok__law_turning Z)) (hr.mono (by decide)) (by rfl) Z.g__law_turning Z.F__law_turning.kp Z.b__law_turning tk (br_acons (br_var 0 (.inl rfl)) (br_acons (br_var 1 (.inl rfl)) br_anil))))))
      (bss_cons (bs_set (i := 3) nd rfl (.inr rfl) (br_Lc (br_lst (br_acons br_int (br_acons (br_var 1 (.inl rfl)) br_anil)))))
      (bss_cons (bs_for po (by rfl) (bi_range (by rfl) Z.m_range (br_call (FnOk.pop (ok__law_take Z)) (hr.mono (by decide)) (by rfl) Z.g__law_take Z.F__law_take.kp Z.b__law_take tk (br_acons (br_var 0 (.inl rfl)) (br_acons br_int br_anil)))) (bg_name (i := 4) nd rfl (.inl rfl)) (bss_one (bs_expr (br_m PySem.F.plainAttrs_list PySem.F.slot_list_append PySem.F.type_list_append mt_append ok_list o_append (br_var 3 (.inr (.inl rfl))) (br_acons (br_call (FnOk.pop (ok__law_take Z)) (hr.mono (by decide)) (by rfl) Z.g__law_take Z.F__law_take.kp Z.b__law_take tk (br_acons (br_var 0 (.inl rfl)) (br_acons (br_var 1 (.inl rfl)) br_anil))) br_anil)))))
      (bss_cons (bs_set (i := 3) nd rfl (.inr rfl) (br_Lc (bl_sortSet (by rfl) (by rfl) Z.m_sorted (by rfl) Z.m_set (br_var 3 (.inr (.inl rfl))))))
      (bss_one (bs_ret (br_L (bl_comp (own := [("k", 5)]) (by rfl) nd (bi_range (by rfl) Z.m_range (br_bin op_sub o_sub (bB_1 call_len_seq o_len (by rfl) Z.m_len PySem.boot_len (br_var 3 (.inr (.inl rfl)))) br_int)) (blkOk_by (by rfl)) (fun _ _ _ _ _ => (cg_name (i := 5) (by decide) nd rfl (.inl rfl))) (fun _ _ _ _ _ => bts_nil) (fun _ _ _ _ _ => (br_L (bl_cut (br_var 2 (.inr (.inl rfl))) (bo_some (br_ix (br_var 3 (.inr (.inl rfl))) (br_var 5 (.inl rfl)) (fun _ _ => rfl))) (bo_some (br_ix (br_var 3 (.inr (.inl rfl))) (br_bin op_add o_add (br_var 5 (.inl rfl)) br_int) (fun _ _ => rfl))))))))))))))
theorem ok__law_ordered (Z : Facts K mg) : FnOk P w K mg base (L2.CX P w) 3 Z.a__law_ordered Z.fd__law_ordered ["hand", "some"] (Br.spM K T f__law_ordered) := by
  refine br_def (N := ["hand", "some", "mode", "k"]) (b := b__law_ordered) Z.F__law_ordered sc__law_ordered fun cdv A outer s H E hr => ?_
  have nd := sc__law_ordered.nd
  have tk := takes_of (E := E) (X := cxOf (L2.CX P w) P w K mg base ["hand", "some", "mode", "k"] "_law_ordered" (defScope (topS 11)) Z.a__law_ordered cdv A outer s H E) rfl rfl rfl rfl
  have po := passes_of (X := cxOf (L2.CX P w) P w K mg base ["hand", "some", "mode", "k"] "_law_ordered" (defScope (topS 11)) Z.a__law_ordered cdv A outer s H E) rfl
  have hu := hu_of hr
  have hu64 := hr.units
  have hu65 := hu65_of hr
  have hu66 := hu66_of hr
  exact (bss_cons (bs_set (i := 2) nd rfl (.inl rfl) (br_call (FnOk.pop (ok__law_take Z)) (hr.mono (by decide)) (by rfl) Z.g__law_take Z.F__law_take.kp Z.b__law_take tk (br_acons (br_var 0 (.inl rfl)) (br_acons br_int br_anil))))
      (bss_cons (bs_if (bt_cmp op_eq o_eqS (br_var 2 (.inl rfl)) br_int (nomark _)) (bss_one (bs_set (i := 1) nd rfl (.inr rfl) (br_L (bl_back (br_var 1 (.inr (.inl rfl))))))) bss_nil)
      (bss_cons (bs_if (bt_cmp op_eq o_eqS (br_var 2 (.inl rfl)) br_int (nomark _)) (bss_one (bs_set (i := 1) nd rfl (.inr rfl) (br_L (bl_comp (own := [("k", 3)]) (by rfl) nd (bi_tup (br_call (FnOk.pop (ok__law_turning Z)) (hr.mono (by decide)) (by rfl) Z.g__law_turning Z.F__law_turning.kp Z.b__law_turning tk (br_acons (br_var 0 (.inl rfl)) (br_acons (bB_1 call_len_seq o_len (by rfl) Z.m_len PySem.boot_len (br_var 1 (.inr (.inl rfl)))) br_anil)))) (blkOk_by (by rfl)) (fun _ _ _ _ _ => (cg_name (i := 3) (by decide) nd rfl (.inl rfl))) (fun _ _ _ _ _ => bts_nil) (fun _ _ _ _ _ => (br_ix (br_var 1 (.inr (.inl rfl))) (br_var 3 (.inl rfl)) (fun _ _ => rfl))))))) bss_nil)
      (bss_cons (bs_if (bt_cmp op_eq o_eqS (br_call (FnOk.pop (ok__law_take Z)) (hr.mono (by decide)) (by rfl) Z.g__law_take Z.F__law_take.kp Z.b__law_take tk (br_acons (br_var 0 (.inl rfl)) (br_acons br_int br_anil))) br_int (nomark _)) (bss_one (bs_set (i := 1) nd rfl (.inr rfl) (br_L (bl_add (br_var 1 (.inr (.inl rfl))) (br_var 1 (.inr (.inl rfl))))))) bss_nil)
      (bss_one (bs_ret (br_var 1 (.inr (.inl rfl)))))))))
theorem ok__law_exchange (Z : Facts K mg) : FnOk P w K mg base (L2.CX P w) 1 Z.a__law_exchange Z.fd__law_exchange ["one", "other", "many"] (Br.spM K T f__law_exchange) := by
  refine br_def (N := ["one", "other", "many", "row"]) (b := b__law_exchange) Z.F__law_exchange sc__law_exchange fun cdv A outer s H E hr => ?_
  have nd := sc__law_exchange.nd
  have tk := takes_of (E := E) (X := cxOf (L2.CX P w) P w K mg base ["one", "other", "many", "row"] "_law_exchange" (defScope (topS 12)) Z.a__law_exchange cdv A outer s H E) rfl rfl rfl rfl
  have po := passes_of (X := cxOf (L2.CX P w) P w K mg base ["one", "other", "many", "row"] "_law_exchange" (defScope (topS 12)) Z.a__law_exchange cdv A outer s H E) rfl
  have hu := hu_of hr
  have hu64 := hr.units
  have hu65 := hu65_of hr
  have hu66 := hu66_of hr
  exact (bss_cons (bs_set (i := 3) nd rfl (.inl rfl) (br_Lc (br_listRange (by rfl) (by rfl) Z.m_list (by rfl) Z.m_range (br_var 2 (.inl rfl)))))
      (bss_cons (bs_putL (br_var 3 (.inl rfl)) (br_var 0 (.inl rfl)) (br_var 1 (.inl rfl)))
      (bss_cons (bs_putL (br_var 3 (.inl rfl)) (br_var 1 (.inl rfl)) (br_var 0 (.inl rfl)))
      (bss_one (bs_ret (bT_1 call_tuple_of o_tuple (by rfl) Z.m_tuple PyProof.Rows.boot_tuple (br_var 3 (.inl rfl))))))))
theorem ok__law_alike (Z : Facts K mg) : FnOk P w K mg base (L2.CX P w) 1 Z.a__law_alike Z.fd__law_alike ["found", "due"] (Br.spM K T f__law_alike) := by
  refine br_def (N := ["found", "due", "part", "x"]) (b := b__law_alike) Z.F__law_alike sc__law_alike fun cdv A outer s H E hr => ?_
  have nd := sc__law_alike.nd
  have tk := takes_of (E := E) (X := cxOf (L2.CX P w) P w K mg base ["found", "due", "part", "x"] "_law_alike" (defScope (topS 13)) Z.a__law_alike cdv A outer s H E) rfl rfl rfl rfl
  have po := passes_of (X := cxOf (L2.CX P w) P w K mg base ["found", "due", "part", "x"] "_law_alike" (defScope (topS 13)) Z.a__law_alike cdv A outer s H E) rfl
  have hu := hu_of hr
  have hu64 := hr.units
  have hu65 := hu65_of hr
  have hu66 := hu66_of hr
  exact (bss_cons (bs_if (PW.pt (bw_or (bt_not (bt_val (br_isa (t := .list) PyProof.Rows.boot_list (by rfl) Z.m_isinstance (by rfl) Z.m_list (br_var 0 (.inl rfl))))) (bw_1 (bt_cmp (op_neD hu64) o_ne (br_var 0 (.inl rfl)) (br_var 1 (.inl rfl)) (nomark _))))) (bss_one (bs_ret br_bl)) bss_nil)
      (bss_cons (bs_for po (by rfl) (bi_list (br_var 0 (.inl rfl))) (bg_name (i := 2) nd rfl (.inl rfl)) (bss_one (bs_if (PW.pt (bw_or (bt_not (bt_val (br_isa (t := .list) PyProof.Rows.boot_list (by rfl) Z.m_isinstance (by rfl) Z.m_list (br_var 2 (.inl rfl))))) (bw_1 (bt_not (bt_val (bB_1 (cr_all (by rfl)) o_all (by rfl) Z.m_all PyProof.Rows.boot_all (br_L (bl_comp (own := [("x", 3)]) (by rfl) nd (bi_list (br_var 2 (.inl rfl))) (blkOk_by (by rfl)) (fun _ _ _ _ _ => (cg_name (i := 3) (by decide) nd rfl (.inl rfl))) (fun _ _ _ _ _ => bts_nil) (fun _ _ _ _ _ => (br_and (br_isa (t := .int) PyProof.Rows.boot_int (by rfl) Z.m_isinstance (by rfl) Z.m_int (br_var 3 (.inl rfl))) (br_one (br_not (br_isa (t := .bool) PyProof.Rows.boot_bool (by rfl) Z.m_isinstance (by rfl) Z.m_bool (br_var 3 (.inl rfl))))))))))))))) (bss_one (bs_ret br_bl)) bss_nil)))
      (bss_one (bs_ret br_bl))))
theorem ok__law_some_rows (Z : Facts K mg) : FnOk P w K mg base (L2.CX P w) 3 Z.a__law_some_rows Z.fd__law_some_rows ["hand", "rows"] (Br.spM K T f__law_some_rows) := by
  refine br_def (N := ["hand", "rows", "pairs", "chosen", "row", "at", "pair"]) (b := b__law_some_rows) Z.F__law_some_rows sc__law_some_rows fun cdv A outer s H E hr => ?_
  have nd := sc__law_some_rows.nd
  have tk := takes_of (E := E) (X := cxOf (L2.CX P w) P w K mg base ["hand", "rows", "pairs", "chosen", "row", "at", "pair"] "_law_some_rows" (defScope (topS 14)) Z.a__law_some_rows cdv A outer s H E) rfl rfl rfl rfl
  have po := passes_of (X := cxOf (L2.CX P w) P w K mg base ["hand", "rows", "pairs", "chosen", "row", "at", "pair"] "_law_some_rows" (defScope (topS 14)) Z.a__law_some_rows cdv A outer s H E) rfl
  have hu := hu_of hr
  have hu64 := hr.units
  have hu65 := hu65_of hr
  have hu66 := hu66_of hr
  exact (bss_cons (bs_par (i := 2) (j := 3) (by rfl) nd rfl rfl (by decide) rfl rfl (br_Lc (br_lst br_anil)) (br_Lc (br_lst br_anil)) (hp := fun h => ps_par (by rfl) nd rfl rfl (by decide) rfl rfl h (by rfl)))
      (bss_cons (bs_for po (by rfl) (bi_list (br_var 1 (.inl rfl))) (bg_name (i := 4) nd rfl (.inl rfl)) (bss_one (bs_if (PW.pt (bw_and (bt_cmp op_gt o_gt (bB_1 call_len_seq o_len (by rfl) Z.m_len PySem.boot_len (br_var 4 (.inl rfl))) br_int (nomark _)) (bw_1 (bt_cmp op_gt o_gt (br_call (FnOk.pop (ok__law_take Z)) (hr.mono (by decide)) (by rfl) Z.g__law_take Z.F__law_take.kp Z.b__law_take tk (br_acons (br_var 0 (.inl rfl)) (br_acons br_int br_anil))) br_int (nomark _))))) (bss_cons (bs_set (i := 5) nd rfl (.inl rfl) (br_call (FnOk.pop (ok__law_pick Z)) (hr.mono (by decide)) (by rfl) Z.g__law_pick Z.F__law_pick.kp Z.b__law_pick tk (br_acons (br_var 0 (.inl rfl)) (br_acons (br_L (br_lst (br_acons br_int (br_acons (br_bin op_sub o_sub (bB_1 call_len_seq o_len (by rfl) Z.m_len PySem.boot_len (br_var 4 (.inl rfl))) br_int) (br_acons (br_call (FnOk.pop (ok__law_take Z)) (hr.mono (by decide)) (by rfl) Z.g__law_take Z.F__law_take.kp Z.b__law_take tk (br_acons (br_var 0 (.inl rfl)) (br_acons (br_bin op_sub o_sub (bB_1 call_len_seq o_len (by rfl) Z.m_len PySem.boot_len (br_var 4 (.inl rfl))) br_int) br_anil))) br_anil))))) br_anil))))
      (bss_cons (bs_set (i := 6) nd rfl (.inl rfl) (br_tup (br_acons (br_ix (br_var 4 (.inl rfl)) (br_var 5 (.inl rfl)) (fun _ _ => rfl)) (br_acons (br_ix (br_var 4 (.inl rfl)) (br_bin op_add o_add (br_var 5 (.inl rfl)) br_int) (fun _ _ => rfl)) br_anil))))
      (bss_cons (bs_expr (br_m PySem.F.plainAttrs_list PySem.F.slot_list_append PySem.F.type_list_append mt_append ok_list o_append (br_var 2 (.inl rfl)) (br_acons (br_call (FnOk.pop (ok__law_pick Z)) (hr.mono (by decide)) (by rfl) Z.g__law_pick Z.F__law_pick.kp Z.b__law_pick tk (br_acons (br_var 0 (.inl rfl)) (br_acons (br_L (br_lst (br_acons (br_var 6 (.inl rfl)) (br_acons (br_tup (br_acons (br_ix (br_var 6 (.inl rfl)) br_int (fun _ _ => rfl)) (br_acons (br_ix (br_var 6 (.inl rfl)) br_int (fun _ _ => rfl)) br_anil))) br_anil)))) br_anil))) br_anil)))
      (bss_one (bs_expr (br_m PySem.F.plainAttrs_list PySem.F.slot_list_append PySem.F.type_list_append mt_append ok_list o_append (br_var 3 (.inl rfl)) (br_acons (br_var 4 (.inl rfl)) br_anil))))))) bss_nil)))
      (bss_one (bs_ret (br_tup (br_acons (br_var 2 (.inl rfl)) (br_acons (br_var 3 (.inl rfl)) br_anil)))))))
theorem ok__law_right (Z : Facts K mg) : FnOk P w K mg base (L2.CX P w) 4 Z.a__law_right Z.fd__law_right ["hand", "rows", "many"] (Br.spM K T f__law_right) := by
  refine br_def (N := ["hand", "rows", "many", "due", "row", "links", "k", "makers", "one", "other", "kept", "pairs", "pair", "told", "few", "chosen", "alone", "x"]) (b := b__law_right) Z.F__law_right sc__law_right fun cdv A outer s H E hr => ?_
  have nd := sc__law_right.nd
  have tk := takes_of (E := E) (X := cxOf (L2.CX P w) P w K mg base ["hand", "rows", "many", "due", "row", "links", "k", "makers", "one", "other", "kept", "pairs", "pair", "told", "few", "chosen", "alone", "x"] "_law_right" (defScope (topS 15)) Z.a__law_right cdv A outer s H E) rfl rfl rfl rfl
  have po := passes_of (X := cxOf (L2.CX P w) P w K mg base ["hand", "rows", "many", "due", "row", "links", "k", "makers", "one", "other", "kept", "pairs", "pair", "told", "few", "chosen", "alone", "x"] "_law_right" (defScope (topS 15)) Z.a__law_right cdv A outer s H E) rfl
  have hu := hu_of hr
  have hu64 := hr.units
  have hu65 := hu65_of hr
  have hu66 := hu66_of hr
  exact (bss_cons (bs_set (i := 3) nd rfl (.inl rfl) (br_L (bl_sorted hu66 (by rfl) Z.m_sorted (br_L (bl_comp (own := [("row", 4)]) (by rfl) nd (bi_list (br_var 1 (.inl rfl))) (blkOk_by (by rfl)) (fun _ _ _ _ _ => (cg_name (i := 4) (by decide) nd rfl (.inl rfl))) (fun _ _ _ _ _ => bts_nil) (fun _ _ _ _ _ => (br_L (bl_sorted hu66 (by rfl) Z.m_sorted (br_var 4 (.inl rfl))))))))))
      (bss_cons (bs_set (i := 5) nd rfl (.inl rfl) (br_L (br_lst br_anil)))
      (bss_cons (bs_for po (by rfl) (bi_list (br_var 1 (.inl rfl))) (bg_name (i := 4) nd rfl (.inr rfl)) (bss_one (bs_set (i := 5) nd rfl (.inl rfl) (br_L (bl_add (br_var 5 (.inl rfl)) (br_L (bl_comp (own := [("k", 6)]) (by rfl) nd (bi_range (by rfl) Z.m_range (br_bin op_sub o_sub (bB_1 call_len_seq o_len (by rfl) Z.m_len PySem.boot_len (br_var 4 (.inr (.inl rfl)))) br_int)) (blkOk_by (by rfl)) (fun _ _ _ _ _ => (cg_name (i := 6) (by decide) nd rfl (.inl rfl))) (fun _ _ _ _ _ => bts_nil) (fun _ _ _ _ _ => (br_tup (br_acons (br_ix (br_var 4 (.inr (.inl rfl))) (br_var 6 (.inl rfl)) (fun _ _ => rfl)) (br_acons (br_ix (br_var 4 (.inr (.inl rfl))) (br_bin op_add o_add (br_var 6 (.inl rfl)) br_int) (fun _ _ => rfl)) br_anil)))))))))))
      (bss_cons (bs_set (i := 5) nd rfl (.inl rfl) (br_call (FnOk.pop (ok__law_ordered Z)) (hr.mono (by decide)) (by rfl) Z.g__law_ordered Z.F__law_ordered.kp Z.b__law_ordered tk (br_acons (br_var 0 (.inr (.inl rfl))) (br_acons (br_var 5 (.inl rfl)) br_anil))))
      (bss_cons (bs_setComp (i := 7) rfl rfl (sw_true rfl rfl rfl (by decide +kernel)) (own := [("one", 8), ("other", 9)]) (by rfl) nd (bi_list (br_var 5 (.inl rfl))) (blkOk_by (by rfl)) (fun _ _ _ _ _ => (cg_tup (by rfl) (cgs_cons (cg_name (i := 8) (by decide) nd rfl (.inl rfl)) (cgs_cons (cg_name (i := 9) (by decide) nd rfl (.inl rfl)) cgs_nil)))) (fun _ _ _ _ _ => bts_nil) (fun _ _ _ _ _ => (br_call (FnOk.pop (ok__law_exchange Z)) (hr.mono (by decide)) (by rfl) Z.g__law_exchange Z.F__law_exchange.kp Z.b__law_exchange takes0 (br_acons (br_var 8 (.inl rfl)) (br_acons (br_var 9 (.inl rfl)) (br_acons (br_var 2 (.inr (.inl rfl))) br_anil))))))
      (bss_cons (bs_set (i := 10) nd rfl (.inl rfl) (br_L (br_list (by rfl) Z.m_list (br_var 7 (.inl rfl)))))
      (bss_cons (bs_if (PW.pt (bw_or (bt_not (bt_val (br_call (FnOk.pop (ok__law_alike Z)) (hr.mono (by decide)) (by rfl) Z.g__law_alike Z.F__law_alike.kp Z.b__law_alike tk (br_acons (br_call (FnOk.pop (ok_rings_of Z)) (hr.mono (by decide)) (by rfl) Z.g_rings_of Z.F_rings_of.kp Z.b_rings_of tk (br_acons (br_var 2 (.inr (.inl rfl))) (br_acons (br_var 7 (.inl rfl)) br_anil))) (br_acons (br_var 3 (.inl rfl)) br_anil))))) (bw_1 (bt_cmp (op_neD hu64) o_ne (br_var 7 (.inl rfl)) (br_var 10 (.inl rfl)) (nomark _))))) (bss_one (bs_ret br_bl)) bss_nil)
      (bss_cons (bs_setComp (i := 11) rfl rfl (sw_true rfl rfl rfl (by decide +kernel)) (own := [("pair", 12)]) (by rfl) nd (bi_list (br_var 5 (.inl rfl))) (blkOk_by (by rfl)) (fun _ _ _ _ _ => (cg_name (i := 12) (by decide) nd rfl (.inl rfl))) (fun _ _ _ _ _ => bts_nil) (fun _ _ _ _ _ => (br_call (FnOk.pop (ok__law_pick Z)) (hr.mono (by decide)) (by rfl) Z.g__law_pick Z.F__law_pick.kp Z.b__law_pick takes0 (br_acons (br_var 0 (.inr (.inl rfl))) (br_acons (br_L (br_lst (br_acons (br_var 12 (.inl rfl)) (br_acons (br_tup (br_acons (br_ix (br_var 12 (.inl rfl)) br_int (fun _ _ => rfl)) (br_acons (br_ix (br_var 12 (.inl rfl)) br_int (fun _ _ => rfl)) br_anil))) br_anil)))) br_anil)))))
      (bss_cons (bs_set (i := 13) nd rfl (.inl rfl) (br_L (br_list (by rfl) Z.m_list (br_var 11 (.inl rfl)))))
      (bss_cons (bs_if (PW.pt (bw_or (bt_not (bt_val (br_call (FnOk.pop (ok__law_alike Z)) (hr.mono (by decide)) (by rfl) Z.g__law_alike Z.F__law_alike.kp Z.b__law_alike tk (br_acons (br_call (FnOk.pop (ok_finest Z)) (hr.mono (by decide)) (by rfl) Z.g_finest Z.F_finest.kp Z.b_finest tk (br_acons (br_var 2 (.inr (.inl rfl))) (br_acons (br_L (br_lst br_anil)) (br_acons (br_var 11 (.inl rfl)) br_anil)))) (br_acons (br_var 3 (.inl rfl)) br_anil))))) (bw_1 (bt_cmp (op_neD hu64) o_ne (br_var 11 (.inl rfl)) (br_var 13 (.inl rfl)) (nomark _))))) (bss_one (bs_ret br_bl)) bss_nil)
      (bss_cons (bs_asg (br_call (FnOk.pop (ok__law_some_rows Z)) (hr.mono (by decide)) (by rfl) Z.g__law_some_rows Z.F__law_some_rows.kp Z.b__law_some_rows tk (br_acons (br_var 0 (.inr (.inl rfl))) (br_acons (br_var 1 (.inl rfl)) br_anil))) (bg_tup (by rfl) (bgs_cons (bg_name (i := 14) nd rfl (.inl rfl)) (bgs_cons (bg_name (i := 15) nd rfl (.inr rfl)) bgs_nil))))
      (bss_cons (bs_setComp (i := 16) rfl rfl (sw_true rfl rfl rfl (by decide +kernel)) (own := [("x", 17)]) (by rfl) nd (bi_range (by rfl) Z.m_range (br_var 2 (.inr (.inl rfl)))) (blkOk_by (by rfl)) (fun _ _ _ _ _ => (cg_name (i := 17) (by decide) nd rfl (.inr rfl))) (fun _ _ _ _ _ => (bts_one (bt_not (bt_val (bB_1 (cr_any (by rfl)) o_any (by rfl) Z.m_any PyProof.Rows.boot_any (br_L (bl_comp (own := [("row", 4)]) (by rfl) nd (bi_list (br_var 15 (.inr (.inl rfl)))) (blkOk_by (by rfl)) (fun _ _ _ _ _ => (cg_name (i := 4) (by decide) nd rfl (.inl rfl))) (fun _ _ _ _ _ => bts_nil) (fun _ _ _ _ _ => (br_cmp (op_inD hu65) o_in (br_var 17 (.inr (.inl rfl))) (br_var 4 (.inl rfl)) (by rfl)))))))))) (fun _ _ _ _ _ => (br_var 17 (.inr (.inl rfl)))))
      (bss_cons (bs_set (i := 3) nd rfl (.inl rfl) (br_L (bl_sorted hu66 (by rfl) Z.m_sorted (br_L (bl_add (br_L (bl_comp (own := [("row", 4)]) (by rfl) nd (bi_list (br_var 15 (.inr (.inl rfl)))) (blkOk_by (by rfl)) (fun _ _ _ _ _ => (cg_name (i := 4) (by decide) nd rfl (.inl rfl))) (fun _ _ _ _ _ => bts_nil) (fun _ _ _ _ _ => (br_L (bl_sorted hu66 (by rfl) Z.m_sorted (br_var 4 (.inl rfl))))))) (br_L (bl_comp (own := [("x", 17)]) (by rfl) nd (bi_list (br_var 16 (.inl rfl))) (blkOk_by (by rfl)) (fun _ _ _ _ _ => (cg_name (i := 17) (by decide) nd rfl (.inl rfl))) (fun _ _ _ _ _ => bts_nil) (fun _ _ _ _ _ => (br_L (br_lst (br_acons (br_var 17 (.inl rfl)) br_anil)))))))))))
      (bss_one (bs_ret (br_and (br_call (FnOk.pop (ok__law_alike Z)) (hr.mono (by decide)) (by rfl) Z.g__law_alike Z.F__law_alike.kp Z.b__law_alike tk (br_acons (br_call (FnOk.pop (ok_finest Z)) (hr.mono (by decide)) (by rfl) Z.g_finest Z.F_finest.kp Z.b_finest tk (br_acons (br_var 2 (.inr (.inl rfl))) (br_acons (br_var 7 (.inl rfl)) (br_acons (br_L (br_list (by rfl) Z.m_list (br_var 14 (.inl rfl)))) br_anil)))) (br_acons (br_var 3 (.inl rfl)) br_anil))) (br_one (br_cmp (op_eqD hu64) o_eq (br_var 7 (.inl rfl)) (br_var 10 (.inl rfl)) (nomark _)))))))))))))))))))
theorem ok_law (Z : Facts K mg) : FnOk P w K mg base (L2.CX P w) 5 Z.a_law Z.fd_law ["script"] (Br.spM K T f_law) := by
  refine br_def (N := ["script", "k", "hand", "many"]) (b := b_law) Z.F_law sc_law fun cdv A outer s H E hr => ?_
  have nd := sc_law.nd
  have tk := takes_of (E := E) (X := cxOf (L2.CX P w) P w K mg base ["script", "k", "hand", "many"] "law" (defScope (topS 16)) Z.a_law cdv A outer s H E) rfl rfl rfl rfl
  have po := passes_of (X := cxOf (L2.CX P w) P w K mg base ["script", "k", "hand", "many"] "law" (defScope (topS 16)) Z.a_law cdv A outer s H E) rfl
  have hu := hu_of hr
  have hu64 := hr.units
  have hu65 := hu65_of hr
  have hu66 := hu66_of hr
  exact (bss_cons (bs_for po (by rfl) (bi_range (by rfl) Z.m_range (br_bin op_add o_add br_int (bB_2 (call_min2 (by rfl)) o_min2 (by rfl) Z.m_min PyProof.Rows.boot_min br_int (bB_1 call_len_seq o_len (by rfl) Z.m_len PySem.boot_len (br_var 0 (.inl rfl)))))) (bg_name (i := 1) nd rfl (.inl rfl)) (bss_cons (bs_set (i := 2) nd rfl (.inl rfl) (br_call (ok__law_hand Z) (hr.mono (by decide)) (by rfl) Z.g__law_hand Z.F__law_hand.kp Z.b__law_hand tk (br_acons (br_var 0 (.inl rfl)) (br_acons (br_var 1 (.inl rfl)) br_anil))))
      (bss_cons (bs_set (i := 3) nd rfl (.inl rfl) (br_bin op_add o_add br_int (br_call (FnOk.pop (ok__law_take Z)) (hr.mono (by decide)) (by rfl) Z.g__law_take Z.F__law_take.kp Z.b__law_take tk (br_acons (br_var 2 (.inl rfl)) (br_acons br_int br_anil)))))
      (bss_one (bs_if (bt_not (bt_val (br_call (FnOk.pop (ok__law_right Z)) (hr.mono (by decide)) (by rfl) Z.g__law_right Z.F__law_right.kp Z.b__law_right tk (br_acons (br_var 2 (.inl rfl)) (br_acons (br_call (FnOk.pop (ok__law_rows Z)) (hr.mono (by decide)) (by rfl) Z.g__law_rows Z.F__law_rows.kp Z.b__law_rows tk (br_acons (br_var 2 (.inl rfl)) (br_acons (br_var 3 (.inl rfl)) br_anil))) (br_acons (br_var 3 (.inl rfl)) br_anil)))))) (bss_one (bs_ret br_bl)) bss_nil)))))
      (bss_one (bs_ret br_bl)))
end
end k29
end
set_option Elab.async false
set_option linter.all false
set_option maxRecDepth 100000
set_option maxHeartbeats 4000000
namespace k29
open PySem PySem.Spec PyProof.Rows L2 Mi Br
theorem all_mk {l : PySem.W.OpenLaw} {w : World} {K : PySem.W.Frag} {h : Heap} {mg : Str → Option Value} {fa : Addr} (X : K.In h) (G : h.Ns mainGlobals mg) (hfa : mg "law" = some (.ref fa))
    {f0 : Addr} {od0 an0 : Option Addr} {sl0 : Array (Option Value)} {oc0 kV0 dc0 pm0 cd0 ct0 : Value}
    {f1 : Addr} {od1 an1 : Option Addr} {sl1 : Array (Option Value)} {oc1 kV1 dc1 pm1 cd1 ct1 : Value}
    {f2 : Addr} {od2 an2 : Option Addr} {sl2 : Array (Option Value)} {oc2 kV2 dc2 pm2 cd2 ct2 : Value}
    {f3 : Addr} {od3 an3 : Option Addr} {sl3 : Array (Option Value)} {oc3 kV3 dc3 pm3 cd3 ct3 : Value}
    {f4 : Addr} {od4 an4 : Option Addr} {sl4 : Array (Option Value)} {oc4 kV4 dc4 pm4 cd4 ct4 : Value}
    {f5 : Addr} {od5 an5 : Option Addr} {sl5 : Array (Option Value)} {oc5 kV5 dc5 pm5 cd5 ct5 : Value}
    {f6 : Addr} {od6 an6 : Option Addr} {sl6 : Array (Option Value)} {oc6 kV6 dc6 pm6 cd6 ct6 : Value}
    {f7 : Addr} {od7 an7 : Option Addr} {sl7 : Array (Option Value)} {oc7 kV7 dc7 pm7 cd7 ct7 : Value}
    {f8 : Addr} {od8 an8 : Option Addr} {sl8 : Array (Option Value)} {oc8 kV8 dc8 pm8 cd8 ct8 : Value}
    {f9 : Addr} {od9 an9 : Option Addr} {sl9 : Array (Option Value)} {oc9 kV9 dc9 pm9 cd9 ct9 : Value}
    {f10 : Addr} {od10 an10 : Option Addr} {sl10 : Array (Option Value)} {oc10 kV10 dc10 pm10 cd10 ct10 : Value}
    {f11 : Addr} {od11 an11 : Option Addr} {sl11 : Array (Option Value)} {oc11 kV11 dc11 pm11 cd11 ct11 : Value}
    {f12 : Addr} {od12 an12 : Option Addr} {sl12 : Array (Option Value)} {oc12 kV12 dc12 pm12 cd12 ct12 : Value}
    {f13 : Addr} {od13 an13 : Option Addr} {sl13 : Array (Option Value)} {oc13 kV13 dc13 pm13 cd13 ct13 : Value}
    {f14 : Addr} {od14 an14 : Option Addr} {sl14 : Array (Option Value)} {oc14 kV14 dc14 pm14 cd14 ct14 : Value}
    (a0 : PySem.W.nsIn K mainGlobals "ring_from" = some (some (.ref f0))) (l0 : K.lookup f0 = some ⟨oc0, od0, .func (PySem.W.fnOf "ring_from" "ring_from" (defArgs (topS 1)) (defBody (topS 1)) (defScope (topS 1)) .none kV0 dc0 pm0 an0 cd0 ct0), sl0⟩) (c0 : PySem.W.codeIn K cd0 "ring_from" = true) (k0 : PySem.W.keepIn K (.ref f0) = true)
    (a1 : PySem.W.nsIn K mainGlobals "rings_of" = some (some (.ref f1))) (l1 : K.lookup f1 = some ⟨oc1, od1, .func (PySem.W.fnOf "rings_of" "rings_of" (defArgs (topS 2)) (defBody (topS 2)) (defScope (topS 2)) .none kV1 dc1 pm1 an1 cd1 ct1), sl1⟩) (c1 : PySem.W.codeIn K cd1 "rings_of" = true) (k1 : PySem.W.keepIn K (.ref f1) = true)
    (a2 : PySem.W.nsIn K mainGlobals "parts_by" = some (some (.ref f2))) (l2 : K.lookup f2 = some ⟨oc2, od2, .func (PySem.W.fnOf "parts_by" "parts_by" (defArgs (topS 3)) (defBody (topS 3)) (defScope (topS 3)) .none kV2 dc2 pm2 an2 cd2 ct2), sl2⟩) (c2 : PySem.W.codeIn K cd2 "parts_by" = true) (k2 : PySem.W.keepIn K (.ref f2) = true)
    (a3 : PySem.W.nsIn K mainGlobals "finest" = some (some (.ref f3))) (l3 : K.lookup f3 = some ⟨oc3, od3, .func (PySem.W.fnOf "finest" "finest" (defArgs (topS 4)) (defBody (topS 4)) (defScope (topS 4)) .none kV3 dc3 pm3 an3 cd3 ct3), sl3⟩) (c3 : PySem.W.codeIn K cd3 "finest" = true) (k3 : PySem.W.keepIn K (.ref f3) = true)
    (a4 : PySem.W.nsIn K mainGlobals "_law_hand" = some (some (.ref f4))) (l4 : K.lookup f4 = some ⟨oc4, od4, .func (PySem.W.fnOf "_law_hand" "_law_hand" (defArgs (topS 6)) (defBody (topS 6)) (defScope (topS 6)) .none kV4 dc4 pm4 an4 cd4 ct4), sl4⟩) (c4 : PySem.W.codeIn K cd4 "_law_hand" = true) (k4 : PySem.W.keepIn K (.ref f4) = true)
    (a5 : PySem.W.nsIn K mainGlobals "_law_take" = some (some (.ref f5))) (l5 : K.lookup f5 = some ⟨oc5, od5, .func (PySem.W.fnOf "_law_take" "_law_take" (defArgs (topS 7)) (defBody (topS 7)) (defScope (topS 7)) .none kV5 dc5 pm5 an5 cd5 ct5), sl5⟩) (c5 : PySem.W.codeIn K cd5 "_law_take" = true) (k5 : PySem.W.keepIn K (.ref f5) = true)
    (a6 : PySem.W.nsIn K mainGlobals "_law_pick" = some (some (.ref f6))) (l6 : K.lookup f6 = some ⟨oc6, od6, .func (PySem.W.fnOf "_law_pick" "_law_pick" (defArgs (topS 8)) (defBody (topS 8)) (defScope (topS 8)) .none kV6 dc6 pm6 an6 cd6 ct6), sl6⟩) (c6 : PySem.W.codeIn K cd6 "_law_pick" = true) (k6 : PySem.W.keepIn K (.ref f6) = true)
    (a7 : PySem.W.nsIn K mainGlobals "_law_turning" = some (some (.ref f7))) (l7 : K.lookup f7 = some ⟨oc7, od7, .func (PySem.W.fnOf "_law_turning" "_law_turning" (defArgs (topS 9)) (defBody (topS 9)) (defScope (topS 9)) .none kV7 dc7 pm7 an7 cd7 ct7), sl7⟩) (c7 : PySem.W.codeIn K cd7 "_law_turning" = true) (k7 : PySem.W.keepIn K (.ref f7) = true)
    (a8 : PySem.W.nsIn K mainGlobals "_law_rows" = some (some (.ref f8))) (l8 : K.lookup f8 = some ⟨oc8, od8, .func (PySem.W.fnOf "_law_rows" "_law_rows" (defArgs (topS 10)) (defBody (topS 10)) (defScope (topS 10)) .none kV8 dc8 pm8 an8 cd8 ct8), sl8⟩) (c8 : PySem.W.codeIn K cd8 "_law_rows" = true) (k8 : PySem.W.keepIn K (.ref f8) = true)
    (a9 : PySem.W.nsIn K mainGlobals "_law_ordered" = some (some (.ref f9))) (l9 : K.lookup f9 = some ⟨oc9, od9, .func (PySem.W.fnOf "_law_ordered" "_law_ordered" (defArgs (topS 11)) (defBody (topS 11)) (defScope (topS 11)) .none kV9 dc9 pm9 an9 cd9 ct9), sl9⟩) (c9 : PySem.W.codeIn K cd9 "_law_ordered" = true) (k9 : PySem.W.keepIn K (.ref f9) = true)
    (a10 : PySem.W.nsIn K mainGlobals "_law_exchange" = some (some (.ref f10))) (l10 : K.lookup f10 = some ⟨oc10, od10, .func (PySem.W.fnOf "_law_exchange" "_law_exchange" (defArgs (topS 12)) (defBody (topS 12)) (defScope (topS 12)) .none kV10 dc10 pm10 an10 cd10 ct10), sl10⟩) (c10 : PySem.W.codeIn K cd10 "_law_exchange" = true) (k10 : PySem.W.keepIn K (.ref f10) = true)
    (a11 : PySem.W.nsIn K mainGlobals "_law_alike" = some (some (.ref f11))) (l11 : K.lookup f11 = some ⟨oc11, od11, .func (PySem.W.fnOf "_law_alike" "_law_alike" (defArgs (topS 13)) (defBody (topS 13)) (defScope (topS 13)) .none kV11 dc11 pm11 an11 cd11 ct11), sl11⟩) (c11 : PySem.W.codeIn K cd11 "_law_alike" = true) (k11 : PySem.W.keepIn K (.ref f11) = true)
    (a12 : PySem.W.nsIn K mainGlobals "_law_some_rows" = some (some (.ref f12))) (l12 : K.lookup f12 = some ⟨oc12, od12, .func (PySem.W.fnOf "_law_some_rows" "_law_some_rows" (defArgs (topS 14)) (defBody (topS 14)) (defScope (topS 14)) .none kV12 dc12 pm12 an12 cd12 ct12), sl12⟩) (c12 : PySem.W.codeIn K cd12 "_law_some_rows" = true) (k12 : PySem.W.keepIn K (.ref f12) = true)
    (a13 : PySem.W.nsIn K mainGlobals "_law_right" = some (some (.ref f13))) (l13 : K.lookup f13 = some ⟨oc13, od13, .func (PySem.W.fnOf "_law_right" "_law_right" (defArgs (topS 15)) (defBody (topS 15)) (defScope (topS 15)) .none kV13 dc13 pm13 an13 cd13 ct13), sl13⟩) (c13 : PySem.W.codeIn K cd13 "_law_right" = true) (k13 : PySem.W.keepIn K (.ref f13) = true)
    (a14 : PySem.W.nsIn K mainGlobals "law" = some (some (.ref f14))) (l14 : K.lookup f14 = some ⟨oc14, od14, .func (PySem.W.fnOf "law" "law" (defArgs (topS 16)) (defBody (topS 16)) (defScope (topS 16)) .none kV14 dc14 pm14 an14 cd14 ct14), sl14⟩) (c14 : PySem.W.codeIn K cd14 "law" = true) (k14 : PySem.W.keepIn K (.ref f14) = true)
    (z_abs : PySem.W.nsIn K mainGlobals "abs" = some none)
    (z_all : PySem.W.nsIn K mainGlobals "all" = some none)
    (z_any : PySem.W.nsIn K mainGlobals "any" = some none)
    (z_bool : PySem.W.nsIn K mainGlobals "bool" = some none)
    (z_int : PySem.W.nsIn K mainGlobals "int" = some none)
    (z_isinstance : PySem.W.nsIn K mainGlobals "isinstance" = some none)
    (z_len : PySem.W.nsIn K mainGlobals "len" = some none)
    (z_list : PySem.W.nsIn K mainGlobals "list" = some none)
    (z_min : PySem.W.nsIn K mainGlobals "min" = some none)
    (z_range : PySem.W.nsIn K mainGlobals "range" = some none)
    (z_set : PySem.W.nsIn K mainGlobals "set" = some none)
    (z_sorted : PySem.W.nsIn K mainGlobals "sorted" = some none)
    (z_tuple : PySem.W.nsIn K mainGlobals "tuple" = some none)
    : ∃ fd : FuncData, (∀ (s : Shared) (v : Value), BindsTo s fd ⟨[v], []⟩ [("script", v)]) ∧ ∀ base : Heap, K.In base → base.Ns mainGlobals mg → FnOk l.prog w K mg base (L2.CX l.prog w) 5 fa fd ["script"] (Br.spM K (fun _ => none) f_law) := by
  have e := hfa.symm.trans (PySem.W.mg_of X G a14)
  cases e
  have F0 := fun_mk (st := topS 1) l0 c0 k0
  have b0 := F0.binds (ps := ["place", "makers"]) fun _ _ _ _ _ _ us hl => match us, hl with | [_, _], _ => rfl
  have F1 := fun_mk (st := topS 2) l1 c1 k1
  have b1 := F1.binds (ps := ["many", "makers"]) fun _ _ _ _ _ _ us hl => match us, hl with | [_, _], _ => rfl
  have F2 := fun_mk (st := topS 3) l2 c2 k2
  have b2 := F2.binds (ps := ["marks"]) fun _ _ _ _ _ _ us hl => match us, hl with | [_], _ => rfl
  have F3 := fun_mk (st := topS 4) l3 c3 k3
  have b3 := F3.binds (ps := ["many", "makers", "pairs"]) fun _ _ _ _ _ _ us hl => match us, hl with | [_, _, _], _ => rfl
  have F4 := fun_mk (st := topS 6) l4 c4 k4
  have b4 := F4.binds (ps := ["script", "k"]) fun _ _ _ _ _ _ us hl => match us, hl with | [_, _], _ => rfl
  have F5 := fun_mk (st := topS 7) l5 c5 k5
  have b5 := F5.binds (ps := ["hand", "many"]) fun _ _ _ _ _ _ us hl => match us, hl with | [_, _], _ => rfl
  have F6 := fun_mk (st := topS 8) l6 c6 k6
  have b6 := F6.binds (ps := ["hand", "some"]) fun _ _ _ _ _ _ us hl => match us, hl with | [_, _], _ => rfl
  have F7 := fun_mk (st := topS 9) l7 c7 k7
  have b7 := F7.binds (ps := ["hand", "many"]) fun _ _ _ _ _ _ us hl => match us, hl with | [_, _], _ => rfl
  have F8 := fun_mk (st := topS 10) l8 c8 k8
  have b8 := F8.binds (ps := ["hand", "many"]) fun _ _ _ _ _ _ us hl => match us, hl with | [_, _], _ => rfl
  have F9 := fun_mk (st := topS 11) l9 c9 k9
  have b9 := F9.binds (ps := ["hand", "some"]) fun _ _ _ _ _ _ us hl => match us, hl with | [_, _], _ => rfl
  have F10 := fun_mk (st := topS 12) l10 c10 k10
  have b10 := F10.binds (ps := ["one", "other", "many"]) fun _ _ _ _ _ _ us hl => match us, hl with | [_, _, _], _ => rfl
  have F11 := fun_mk (st := topS 13) l11 c11 k11
  have b11 := F11.binds (ps := ["found", "due"]) fun _ _ _ _ _ _ us hl => match us, hl with | [_, _], _ => rfl
  have F12 := fun_mk (st := topS 14) l12 c12 k12
  have b12 := F12.binds (ps := ["hand", "rows"]) fun _ _ _ _ _ _ us hl => match us, hl with | [_, _], _ => rfl
  have F13 := fun_mk (st := topS 15) l13 c13 k13
  have b13 := F13.binds (ps := ["hand", "rows", "many"]) fun _ _ _ _ _ _ us hl => match us, hl with | [_, _, _], _ => rfl
  have F14 := fun_mk (st := topS 16) l14 c14 k14
  have b14 := F14.binds (ps := ["script"]) fun _ _ _ _ _ _ us hl => match us, hl with | [_], _ => rfl
  exact ⟨_, fun s v => .of_eq rfl, fun base _ _ => ok_law { m_abs := PySem.W.mg_none_of X G z_abs, m_all := PySem.W.mg_none_of X G z_all, m_any := PySem.W.mg_none_of X G z_any, m_bool := PySem.W.mg_none_of X G z_bool, m_int := PySem.W.mg_none_of X G z_int, m_isinstance := PySem.W.mg_none_of X G z_isinstance, m_len := PySem.W.mg_none_of X G z_len, m_list := PySem.W.mg_none_of X G z_list, m_min := PySem.W.mg_none_of X G z_min, m_range := PySem.W.mg_none_of X G z_range, m_set := PySem.W.mg_none_of X G z_set, m_sorted := PySem.W.mg_none_of X G z_sorted, m_tuple := PySem.W.mg_none_of X G z_tuple, a_ring_from := _, fd_ring_from := _, F_ring_from := F0, g_ring_from := PySem.W.mg_of X G a0, b_ring_from := b0, a_rings_of := _, fd_rings_of := _, F_rings_of := F1, g_rings_of := PySem.W.mg_of X G a1, b_rings_of := b1, a_parts_by := _, fd_parts_by := _, F_parts_by := F2, g_parts_by := PySem.W.mg_of X G a2, b_parts_by := b2, a_finest := _, fd_finest := _, F_finest := F3, g_finest := PySem.W.mg_of X G a3, b_finest := b3, a__law_hand := _, fd__law_hand := _, F__law_hand := F4, g__law_hand := PySem.W.mg_of X G a4, b__law_hand := b4, a__law_take := _, fd__law_take := _, F__law_take := F5, g__law_take := PySem.W.mg_of X G a5, b__law_take := b5, a__law_pick := _, fd__law_pick := _, F__law_pick := F6, g__law_pick := PySem.W.mg_of X G a6, b__law_pick := b6, a__law_turning := _, fd__law_turning := _, F__law_turning := F7, g__law_turning := PySem.W.mg_of X G a7, b__law_turning := b7, a__law_rows := _, fd__law_rows := _, F__law_rows := F8, g__law_rows := PySem.W.mg_of X G a8, b__law_rows := b8, a__law_ordered := _, fd__law_ordered := _, F__law_ordered := F9, g__law_ordered := PySem.W.mg_of X G a9, b__law_ordered := b9, a__law_exchange := _, fd__law_exchange := _, F__law_exchange := F10, g__law_exchange := PySem.W.mg_of X G a10, b__law_exchange := b10, a__law_alike := _, fd__law_alike := _, F__law_alike := F11, g__law_alike := PySem.W.mg_of X G a11, b__law_alike := b11, a__law_some_rows := _, fd__law_some_rows := _, F__law_some_rows := F12, g__law_some_rows := PySem.W.mg_of X G a12, b__law_some_rows := b12, a__law_right := _, fd__law_right := _, F__law_right := F13, g__law_right := PySem.W.mg_of X G a13, b__law_right := b13, a_law := _, fd_law := _, F_law := F14, g_law := PySem.W.mg_of X G a14, b_law := b14 }⟩
end k29
open PySem PySem.W PyProof.Rows
set_option maxHeartbeats 0 in
theorem PySem.Challenge.cw_turnbase_k29_chains_from_the_far_end_holds : PySem.Challenge.rw_turnbase_k29_chains_from_the_far_end.Holds := by
  w_on; o_law; k_head; (case hw => w_witness2)
  k_fill
  refine L2.walk_of (l := PySem.Challenge.rw_turnbase_k29_chains_from_the_far_end) (n := 63) (k := 5) (x := "script") (CX := fun w => L2.CX PySem.Challenge.rw_turnbase_k29_chains_from_the_far_end.prog w) (sp := fun w => Br.spM _ (fun _ => none) k29.f_law) rfl (by decide) rfl ⟨rfl, by decide, by decide⟩ (fun w h Y => PySem.W.kIn_of Y) ?F (fun _ _ a ns hl _ hS => Br.sp_script hS (k29.law_ok ns hl)) (fun _ _ _ _ _ h => ?_)
  case F =>
    intro w mg fa h KX G hmg
    refine' k29.all_mk KX G hmg ?a0 ?l0 ?c0 ?k0 ?a1 ?l1 ?c1 ?k1 ?a2 ?l2 ?c2 ?k2 ?a3 ?l3 ?c3 ?k3 ?a4 ?l4 ?c4 ?k4 ?a5 ?l5 ?c5 ?k5 ?a6 ?l6 ?c6 ?k6 ?a7 ?l7 ?c7 ?k7 ?a8 ?l8 ?c8 ?k8 ?a9 ?l9 ?c9 ?k9 ?a10 ?l10 ?c10 ?k10 ?a11 ?l11 ?c11 ?k11 ?a12 ?l12 ?c12 ?k12 ?a13 ?l13 ?c13 ?k13 ?a14 ?l14 ?c14 ?k14 ?z_abs ?z_all ?z_any ?z_bool ?z_int ?z_isinstance ?z_len ?z_list ?z_min ?z_range ?z_set ?z_sorted ?z_tuple
    (case a0 => k_is)
    (case l0 => k_is)
    (case c0 => k_is)
    (case k0 => k_is)
    (case a1 => k_is)
    (case l1 => k_is)
    (case c1 => k_is)
    (case k1 => k_is)
    (case a2 => k_is)
    (case l2 => k_is)
    (case c2 => k_is)
    (case k2 => k_is)
    (case a3 => k_is)
    (case l3 => k_is)
    (case c3 => k_is)
    (case k3 => k_is)
    (case a4 => k_is)
    (case l4 => k_is)
    (case c4 => k_is)
    (case k4 => k_is)
    (case a5 => k_is)
    (case l5 => k_is)
    (case c5 => k_is)
    (case k5 => k_is)
    (case a6 => k_is)
    (case l6 => k_is)
    (case c6 => k_is)
    (case k6 => k_is)
    (case a7 => k_is)
    (case l7 => k_is)
    (case c7 => k_is)
    (case k7 => k_is)
    (case a8 => k_is)
    (case l8 => k_is)
    (case c8 => k_is)
    (case k8 => k_is)
    (case a9 => k_is)
    (case l9 => k_is)
    (case c9 => k_is)
    (case k9 => k_is)
    (case a10 => k_is)
    (case l10 => k_is)
    (case c10 => k_is)
    (case k10 => k_is)
    (case a11 => k_is)
    (case l11 => k_is)
    (case c11 => k_is)
    (case k11 => k_is)
    (case a12 => k_is)
    (case l12 => k_is)
    (case c12 => k_is)
    (case k12 => k_is)
    (case a13 => k_is)
    (case l13 => k_is)
    (case c13 => k_is)
    (case k13 => k_is)
    (case a14 => k_is)
    (case l14 => k_is)
    (case c14 => k_is)
    (case k14 => k_is)
    (case z_abs => k_is)
    (case z_all => k_is)
    (case z_any => k_is)
    (case z_bool => k_is)
    (case z_int => k_is)
    (case z_isinstance => k_is)
    (case z_len => k_is)
    (case z_list => k_is)
    (case z_min => k_is)
    (case z_range => k_is)
    (case z_set => k_is)
    (case z_sorted => k_is)
    (case z_tuple => k_is)
  obtain ⟨_, _, _, _, _, _, _, _, _, _, _, _, h⟩ := h
  exact h
