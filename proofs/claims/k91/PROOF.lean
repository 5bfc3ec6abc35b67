import PyProof.Rows.All
import Wide.All
import OpenK.AllK
import Wide.FinOn
import HandS.ForMost
import PySem.Challenge.RW_turnbase_k91_windows_of_any_size
import PySem.Str
import HandS.Exc
import HandS.TryOnly
import HandS.ExcOwn
import HandS.WordsExc
import HandS.Wide
import HandS.SortInts
import HandS.More
import HandS.Style
import HandS.Conv
import HandS.IsInst
import HandS.Deep
import KE.SortData
import HandS.Dict
import KE.KDictList
import HandS.SetFor
import HandS.Strs
import HandS.ListItems
import HandS.TryMany
import KE.GoesEnum
import HandS.WordsDict
import HandS.TupAny
import HandS.WideBits
import HandS.TupLe
section
set_option linter.all false
namespace Mi
open PySem

inductive D where
  | non | bl (b : Bool) | int (i : Int) | str (x : Str)
  | tup (xs : List D) | lst (xs : List D) | dct (ks vs : List D) | obj (c : Nat) (fs : List D)
  | cell (k : Nat)
    | fro (xs : List D)
  deriving Inhabited

inductive Cell where
  | lst (xs : List D) | dct (ks vs : List D) | obj (c : Nat) (fs : List D)
    | lck (ks vs : List D) | tdc (ks vs : List D)
  deriving Inhabited

abbrev Cs := List Cell
abbrev Env := List (Option D)

mutual
def D.beq : D → D → Bool
  | .non, .non => true
  | .bl a, .bl b => a == b
  | .int i, .int j => decide (i = j)
  | .str x, .str y => decide (x = y)
  | .tup xs, .tup ys => D.beqs xs ys
  | .lst xs, .lst ys => D.beqs xs ys
  | .fro xs, .fro ys => D.beqs xs ys
  | .dct ks vs, .dct ls ws => D.beqs ks ls && D.beqs vs ws
  | .obj c fs, .obj d gs => decide (c = d) && D.beqs fs gs
  | .cell k, .cell l => decide (k = l)
  | _, _ => false
def D.beqs : List D → List D → Bool
  | [], [] => true
  | x :: xs, y :: ys => D.beq x y && D.beqs xs ys
  | _, _ => false
end
mutual
theorem D.beq_eq : ∀ x y : D, D.beq x y = true → x = y
  | .non, y, h => by cases y <;> simp [D.beq] at h ⊢
  | .bl a, y, h => by cases y <;> simp [D.beq] at h ⊢; exact h
  | .int a, y, h => by cases y <;> simp [D.beq] at h ⊢; exact h
  | .str a, y, h => by cases y <;> simp [D.beq] at h ⊢; exact h
  | .tup xs, y, h => by
    cases y <;> simp only [D.beq, reduceCtorEq, Bool.false_eq_true] at h ⊢
    rw [D.beqs_eq _ _ h]
  | .lst xs, y, h => by
    cases y <;> simp only [D.beq, reduceCtorEq, Bool.false_eq_true] at h ⊢
    rw [D.beqs_eq _ _ h]
  | .fro xs, y, h => by
    cases y <;> simp only [D.beq, reduceCtorEq, Bool.false_eq_true] at h ⊢
    rw [D.beqs_eq _ _ h]
  | .dct ks vs, y, h => by
    cases y <;> simp only [D.beq, reduceCtorEq, Bool.false_eq_true, Bool.and_eq_true] at h ⊢
    rw [D.beqs_eq _ _ h.1, D.beqs_eq _ _ h.2]
  | .obj c fs, y, h => by
    cases y <;> simp only [D.beq, reduceCtorEq, Bool.false_eq_true, Bool.and_eq_true, decide_eq_true_eq] at h ⊢
    rw [D.beqs_eq _ _ h.2, h.1]
  | .cell k, y, h => by cases y <;> simp [D.beq] at h ⊢; exact h
theorem D.beqs_eq : ∀ xs ys : List D, D.beqs xs ys = true → xs = ys
  | [], ys, h => by cases ys <;> simp [D.beqs] at h ⊢
  | x :: xs, ys, h => by
    cases ys with
    | nil => simp [D.beqs] at h
    | cons y ys =>
      simp only [D.beqs, Bool.and_eq_true] at h
      rw [D.beq_eq x y h.1, D.beqs_eq xs ys h.2]
end
mutual
theorem D.beq_rfl : ∀ x : D, D.beq x x = true
  | .non => rfl
  | .bl a => by simp [D.beq]
  | .int a => by simp [D.beq]
  | .str a => by simp [D.beq]
  | .tup xs => by simp only [D.beq]; exact D.beqs_rfl xs
  | .lst xs => by simp only [D.beq]; exact D.beqs_rfl xs
  | .fro xs => by simp only [D.beq]; exact D.beqs_rfl xs
  | .dct ks vs => by simp only [D.beq, D.beqs_rfl ks, D.beqs_rfl vs, Bool.and_self]
  | .obj c fs => by simp only [D.beq, D.beqs_rfl fs, Bool.and_true, decide_true]
  | .cell k => by simp [D.beq]
theorem D.beqs_rfl : ∀ xs : List D, D.beqs xs xs = true
  | [] => rfl
  | x :: xs => by simp only [D.beqs, D.beq_rfl x, D.beqs_rfl xs, Bool.and_self]
end
theorem D.beq_iff {x y : D} : D.beq x y = true ↔ x = y := ⟨D.beq_eq x y, fun h => h ▸ D.beq_rfl x⟩
theorem D.beqs_iff {x y : List D} : D.beqs x y = true ↔ x = y := ⟨D.beqs_eq x y, fun h => h ▸ D.beqs_rfl x⟩
instance : DecidableEq D := fun x y => decidable_of_iff _ D.beq_iff

mutual
def D.under (n : Nat) : D → Bool
  | .tup xs => D.unders n xs
  | .lst xs => D.unders n xs
  | .fro xs => D.unders n xs
  | .dct ks vs => D.unders n ks && D.unders n vs
  | .obj _ fs => D.unders n fs
  | .cell k => decide (k < n)
  | _ => true
def D.unders (n : Nat) : List D → Bool
  | [] => true
  | x :: xs => D.under n x && D.unders n xs
end
def Cell.under (n : Nat) : Cell → Bool
  | .lst xs => D.unders n xs
  | .dct ks vs => D.unders n ks && D.unders n vs
  | .obj _ fs => D.unders n fs
  | .lck ks vs => D.unders n ks && D.unders n vs
  | .tdc ks vs => D.unders n ks && D.unders n vs

mutual
def D.subst (g : Nat → Option D) : D → Option D
  | .tup xs => (D.substs g xs).map .tup
  | .lst xs => (D.substs g xs).map .lst
  | .fro xs => (D.substs g xs).map .fro
  | .dct ks vs => (D.substs g ks).bind fun ks' => (D.substs g vs).map fun vs' => .dct ks' vs'
  | .obj c fs => (D.substs g fs).map (.obj c)
  | .cell k => g k
  | d => some d
def D.substs (g : Nat → Option D) : List D → Option (List D)
  | [] => some []
  | x :: xs => (D.subst g x).bind fun x' => (D.substs g xs).map fun xs' => x' :: xs'
end
def Cell.subst (g : Nat → Option D) : Cell → Option D
  | .lst xs => (D.substs g xs).map .lst
  | .obj c fs => (D.substs g fs).map (.obj c)
  | _ => none
def look (n : Nat) (cs : Cs) : Nat → Nat → Option D
  | 0, k => if k < n then some (.cell k) else none
  | f + 1, k => if k < n then some (.cell k) else (cs[k]?).bind (Cell.subst (look n cs f))
def DEEP : Nat := 8
def frozen (n : Nat) (cs : Cs) (d : D) : Option D := D.subst (look n cs DEEP) d
def eqCell : Option Cell → Option Cell → Bool
  | some (.lst xs), some (.lst ys) => D.beqs xs ys
  | some (.dct ks vs), some (.dct ls ws) => D.beqs ks ls && D.beqs vs ws
  | some (.obj c fs), some (.obj d gs) => decide (c = d) && D.beqs fs gs
  | some (.lck ks vs), some (.lck ls ws) => D.beqs ks ls && D.beqs vs ws
  | some (.tdc ks vs), some (.tdc ls ws) => D.beqs ks ls && D.beqs vs ws
  | none, none => true
  | _, _ => false
def okBelow (n : Nat) : Option Cell → Bool
  | some c => c.under n
  | none => false
def popOk (n : Nat) (cs cs' : Cs) : Bool := (List.range n).all fun k => eqCell cs'[k]? cs[k]? || okBelow n cs'[k]?

inductive R (α : Type) where
  | v (a : α) (cs : Cs)
  | x (c : Nat) (cs : Cs)
abbrev E := Env → Cs → Option (R D)
abbrev EL := Env → Cs → Option (R (List D))
abbrev Fn := List D → Cs → Option (R D)
def bnd {α β : Type} (m : Option (R α)) (f : α → Cs → Option (R β)) : Option (R β) :=
  match m with
  | some (.v a cs) => f a cs
  | some (.x c cs) => some (.x c cs)
  | none => none
def out {α : Type} (m : Option α) (cs : Cs) : Option (R α) := m.map fun a => .v a cs
section
variable {α β : Type} {a : α} {c : Nat} {cs : Cs} {f : α → Cs → Option (R β)}
@[simp] theorem bnd_v : bnd (some (.v a cs)) f = f a cs := rfl
@[simp] theorem bnd_x : bnd (some (.x c cs) : Option (R α)) f = some (.x c cs) := rfl
@[simp] theorem bnd_n : bnd (none : Option (R α)) f = none := rfl
@[simp] theorem out_s : out (some a) cs = some (.v a cs) := rfl
@[simp] theorem out_n : out (none : Option α) cs = none := rfl
end

def SIZE : Nat := 16777216
def FUEL : Nat := 18446744073709551616

def lstOf (cs : Cs) : D → Option (List D)
  | .lst xs => some xs
  | .fro xs => some xs
  | .cell k => match cs[k]? with
    | some (.lst xs) => some xs
    | _ => none
  | _ => none
def ownOf (cs : Cs) : D → Option (List D)
  | .lst xs => some xs
  | .cell k => match cs[k]? with
    | some (.lst xs) => some xs
    | _ => none
  | _ => none
def seqOf (cs : Cs) : D → Option (List D)
  | .tup xs => some xs
  | d => lstOf cs d
def dctOf (cs : Cs) : D → Option (List D × List D)
  | .dct ks vs => some (ks, vs)
  | .cell k => match cs[k]? with
    | some (.dct ks vs) => some (ks, vs)
    | some (.lck ks vs) => some (ks, vs)
    | _ => none
  | _ => none
def cellD (cs : Cs) : D → Option (Nat × List D × List D)
  | .cell k => match cs[k]? with
    | some (.dct ks vs) => some (k, ks, vs)
    | _ => none
  | _ => none
def objOf (cs : Cs) : D → Option (Nat × List D)
  | .obj c fs => some (c, fs)
  | .cell k => match cs[k]? with
    | some (.obj c fs) => some (c, fs)
    | _ => none
  | _ => none
def ixN (n : Nat) (i : Int) : Option Nat := if 0 ≤ i then (if i < n then some i.toNat else none) else if -(n : Int) ≤ i then some (i + n).toNat else none
def atI {α : Type} (xs : List α) (i : Int) : Option α := (ixN xs.length i).bind fun j => xs[j]?
def sIx (n d : Nat) : Option Int → Nat
  | none => d
  | some i => if i < 0 then (i + n).toNat else min i.toNat n
def cut {α : Type} (xs : List α) (lo hi : Option Int) : List α := (xs.drop (sIx xs.length 0 lo)).take (sIx xs.length xs.length hi - sIx xs.length 0 lo)
def find (k : D) : List D → List D → Option D
  | k' :: ks, v :: vs => if k' = k then some v else find k ks vs
  | _, _ => none
def put (k v : D) (ks vs : List D) : List D × List D :=
  if k ∈ ks then (ks, List.zipWith (fun k' v' => if k' = k then v else v') ks vs) else (ks ++ [k], vs ++ [v])

def eVar (i : Nat) : E := fun env cs => match env[i]? with
  | some (some d) => some (.v d cs)
  | _ => none
def eC (d : D) : E := fun _ cs => some (.v d cs)
def e1 (op : Cs → D → Option D) (a : E) : E := fun env cs => bnd (a env cs) fun x cs => out (op cs x) cs
def e2 (op : Cs → D → D → Option D) (a b : E) : E := fun env cs => bnd (a env cs) fun x cs => bnd (b env cs) fun y cs => out (op cs x y) cs
def e3 (op : Cs → D → D → D → Option D) (a b c : E) : E := fun env cs => bnd (a env cs) fun x cs => bnd (b env cs) fun y cs => bnd (c env cs) fun z cs => out (op cs x y z) cs
def aNil : EL := fun _ cs => some (.v [] cs)
def aCons (a : E) (r : EL) : EL := fun env cs => bnd (a env cs) fun x cs => bnd (r env cs) fun xs cs => some (.v (x :: xs) cs)
def eL (l : EL) : E := fun env cs => bnd (l env cs) fun xs cs => some (.v (.lst xs) cs)
def eLc (l : EL) : E := fun env cs => bnd (l env cs) fun xs cs => some (.v (.cell cs.length) (cs ++ [.lst xs]))
def eTup (l : EL) : E := fun env cs => bnd (l env cs) fun xs cs => if xs.length ≤ SIZE then some (.v (.tup xs) cs) else none
def lDisp (l : EL) : EL := fun env cs => bnd (l env cs) fun xs cs => if xs.length ≤ SIZE then some (.v xs cs) else none

def dPairs : List (E × E) → Env → Cs → Option (R (List (D × D)))
  | [], _, cs => some (.v [] cs)
  | (k, v) :: r, env, cs => bnd (k env cs) fun x cs => bnd (v env cs) fun y cs => bnd (dPairs r env cs) fun ps cs => some (.v ((x, y) :: ps) cs)
def isKey : D → Bool
  | .int _ => true
  | .str _ => true
  | _ => false
def puts : List (D × D) → List D × List D → List D × List D
  | [], p => p
  | (k, v) :: r, p => puts r (put k v p.1 p.2)
def eDc (ps : List (E × E)) : E := fun env cs => bnd (dPairs ps env cs) fun qs cs => if qs.all (fun q => isKey q.1) && decide (qs.length ≤ 15) then some (.v (.cell cs.length) (cs ++ [.dct (puts qs ([], [])).1 (puts qs ([], [])).2])) else none

def oAdd : Cs → D → D → Option D
  | _, .int i, .int j => some (.int (i + j))
  | _, _, _ => none
def oSub : Cs → D → D → Option D
  | _, .int i, .int j => some (.int (i - j))
  | _, _, _ => none
def oMul : Cs → D → D → Option D
  | _, .int i, .int j => if i.natAbs.log2 + j.natAbs.log2 < 1000000 then some (.int (i * j)) else none
  | _, _, _ => none
def oDiv : Cs → D → D → Option D
  | _, .int i, .int j => if 0 < j ∧ j.natAbs.log2 < 9000 then some (.int (i / j)) else none
  | _, _, _ => none
def oMod : Cs → D → D → Option D
  | _, .int i, .int j => if 0 < j then some (.int (i % j)) else none
  | _, _, _ => none
def oPow : Cs → D → D → Option D
  | _, .int i, .int j => if 0 ≤ j ∧ j ≤ 1000000 ∧ i.natAbs < 2 ^ 64 then some (.int (i ^ j.toNat)) else none
  | _, _, _ => none
def oNeg : Cs → D → Option D
  | _, .int i => some (.int (-i))
  | _, _ => none
def oAbs : Cs → D → Option D
  | _, .int i => some (.int (if i < 0 then -i else i))
  | _, _ => none
def oInt : Cs → D → Option D
  | _, .int i => some (.int i)
  | _, .bl b => some (.int (if b then 1 else 0))
  | _, _ => none
def oLt : Cs → D → D → Option D
  | _, .int i, .int j => some (.bl (decide (i < j)))
  | _, _, _ => none
def oLe : Cs → D → D → Option D
  | _, .int i, .int j => some (.bl (decide (i ≤ j)))
  | _, _, _ => none
def oGt : Cs → D → D → Option D
  | _, .int i, .int j => some (.bl (decide (j < i)))
  | _, _, _ => none
def oGe : Cs → D → D → Option D
  | _, .int i, .int j => some (.bl (decide (j ≤ i)))
  | _, _, _ => none
def oMin2 : Cs → D → D → Option D
  | _, .int i, .int j => some (.int (if j < i then j else i))
  | _, _, _ => none
def oMax2 : Cs → D → D → Option D
  | _, .int i, .int j => some (.int (if j > i then j else i))
  | _, _, _ => none
def oNot : Cs → D → Option D
  | _, .bl b => some (.bl (!b))
  | _, _ => none
def oLen (cs : Cs) (d : D) : Option D := (seqOf cs d).map fun xs => .int xs.length
def oLenD (cs : Cs) (d : D) : Option D := (dctOf cs d).map fun p => .int p.1.length
def oIx (cs : Cs) (x y : D) : Option D := match y with
  | .int i => (seqOf cs x).bind fun xs => atI xs i
  | _ => none
def oDGet (cs : Cs) (x y : D) : Option D := if isKey y then (dctOf cs x).bind fun p => find y p.1 p.2 else none
def oDIn (cs : Cs) (y x : D) : Option D := if isKey y then (dctOf cs x).map fun p => .bl (find y p.1 p.2).isSome else none
def oDNotIn (cs : Cs) (y x : D) : Option D := if isKey y then (dctOf cs x).map fun p => .bl (!(find y p.1 p.2).isSome) else none
def scal : D → D → Bool
  | .int _, .int _ => true
  | .str _, .str _ => true
  | .bl _, .bl _ => true
  | .non, .non => true
  | _, _ => false
def oEqS (_ : Cs) (x y : D) : Option D := if scal x y then some (.bl (decide (x = y))) else none
def oNeS (_ : Cs) (x y : D) : Option D := if scal x y then some (.bl (!decide (x = y))) else none
mutual
def D.plain : D → Bool
  | .non => true
  | .int _ => true
  | .str x => x.cps.all (· < 0x110000)
  | .tup xs => D.plains xs
  | .lst xs => D.plains xs
  | _ => false
def D.plains : List D → Bool
  | [] => true
  | x :: xs => D.plain x && D.plains xs
end
mutual
def D.depth : D → Nat
  | .tup xs => D.depths xs + 1
  | .lst xs => D.depths xs + 1
  | _ => 0
def D.depths : List D → Nat
  | [] => 0
  | x :: xs => max (D.depth x) (D.depths xs)
end
def D.fit (d : D) : Bool := d.plain && decide (d.depth ≤ 64)
def oEq (cs : Cs) (x y : D) : Option D := (frozen 0 cs x).bind fun d => (frozen 0 cs y).bind fun e => if d.fit && e.fit then some (.bl (decide (d = e))) else none
def oNe (cs : Cs) (x y : D) : Option D := (frozen 0 cs x).bind fun d => (frozen 0 cs y).bind fun e => if d.fit && e.fit then some (.bl (!decide (d = e))) else none
def oIn (cs : Cs) (x y : D) : Option D := (frozen 0 cs x).bind fun d => (frozen 0 cs y).bind fun e => match e with
  | .lst es => if d.fit && (D.lst es).fit then some (.bl (decide (d ∈ es))) else none
  | _ => none
def oNotIn (cs : Cs) (x y : D) : Option D := (frozen 0 cs x).bind fun d => (frozen 0 cs y).bind fun e => match e with
  | .lst es => if d.fit && (D.lst es).fit then some (.bl (!decide (d ∈ es))) else none
  | _ => none

def eAnd (a b : E) : E := fun env cs => bnd (a env cs) fun x cs => match x with
  | .bl true => b env cs
  | .bl false => some (.v (.bl false) cs)
  | _ => none
def eOr (a b : E) : E := fun env cs => bnd (a env cs) fun x cs => match x with
  | .bl true => some (.v (.bl true) cs)
  | .bl false => b env cs
  | _ => none
def eIf (t a b : E) : E := fun env cs => bnd (t env cs) fun x cs => match x with
  | .bl true => a env cs
  | .bl false => b env cs
  | _ => none
def eChain (o o' : Cs → D → D → Option D) (a b c : E) : E := fun env cs => bnd (a env cs) fun x cs => bnd (b env cs) fun y cs => match o cs x y with
  | some (.bl true) => bnd (c env cs) fun z cs => out (o' cs y z) cs
  | some (.bl false) => some (.v (.bl false) cs)
  | _ => none

def lList (a : E) : EL := fun env cs => bnd (a env cs) fun x cs => out (seqOf cs x) cs
def oTuple (cs : Cs) (x : D) : Option D := (seqOf cs x).map .tup
def rng (lo hi : Int) : List D := (List.range (hi - lo).toNat).map fun (k : Nat) => D.int (lo + (k : Int))
def okR (i : Int) : Bool := decide (-(2 ^ 62) ≤ i) && decide (i < 2 ^ 62)
def rngOf (x : D) : Option (List D) := match x with
  | .int n => if 0 ≤ n ∧ n ≤ 16777216 then some (rng 0 n) else none
  | _ => none
def lRange (a : E) : EL := fun env cs => bnd (a env cs) fun x cs => out (rngOf x) cs
def oTupRange (_ : Cs) (x : D) : Option D := (rngOf x).map .tup
def lVals (a : E) : EL := fun env cs => bnd (a env cs) fun x cs => out ((cellD cs x).map fun p => p.2.2) cs
def partOf : Option D → Option (Option Int)
  | none => some none
  | some (.int i) => some (some i)
  | some _ => none
def partE : Option E → Env → Cs → Option (R (Option Int))
  | none => fun _ cs => some (.v none cs)
  | some e => fun env cs => bnd (e env cs) fun y cs => out (partOf (some y)) cs
def lCut (a : E) (lo hi : Option E) : EL := fun env cs => bnd (a env cs) fun x cs => bnd (partE lo env cs) fun l cs => bnd (partE hi env cs) fun h cs => out ((lstOf cs x).map fun xs => cut xs l h) cs
def lBack (a : E) : EL := fun env cs => bnd (a env cs) fun x cs => out ((lstOf cs x).map List.reverse) cs
def lAdd (a b : E) : EL := fun env cs => bnd (a env cs) fun x cs => bnd (b env cs) fun y cs => out ((ownOf cs x).bind fun xs => (ownOf cs y).bind fun ys => if xs.length + ys.length ≤ SIZE then some (xs ++ ys) else none) cs
def lMul (a b : E) : EL := fun env cs => bnd (a env cs) fun x cs => bnd (b env cs) fun y cs => out ((ownOf cs x).bind fun xs => match y with
  | .int n => if 0 ≤ n ∧ xs.length * n.toNat ≤ SIZE ∧ n < 16777216 then some (List.flatten (List.replicate n.toNat xs)) else none
  | _ => none) cs

inductive Ty where
  | int | bool | str | list | tuple
def isaT (cs : Cs) (x : D) : Option Ty → Option Bool
  | none => none
  | some t => match x, t with
    | .non, _ => some false
    | .bl _, .bool => some true
    | .bl _, .int => some true
    | .bl _, _ => some false
    | .int _, .int => some true
    | .int _, _ => some false
    | .str _, .str => some true
    | .str _, _ => some false
    | .tup _, .tuple => some true
    | .tup _, _ => some false
    | .lst _, .list => some true
    | .lst _, _ => some false
    | .fro _, .list => some true
    | .fro _, _ => some false
    | .dct _ _, _ => some false
    | .obj _ _, _ => none
    | .cell k, t => match cs[k]?, t with
      | some (.lst _), .list => some true
      | some (.lst _), _ => some false
      | some (.dct _ _), _ => some false
      | _, _ => none
def oIsa (t : Ty) (cs : Cs) (x : D) : Option D := (isaT cs x (some t)).map .bl
def boolsOf : List D → Option (List Bool)
  | [] => some []
  | .bl b :: xs => (boolsOf xs).map (b :: ·)
  | _ :: _ => none
def oAll (cs : Cs) (x : D) : Option D := ((lstOf cs x).bind boolsOf).map fun bs => .bl (bs.all id)
def oAny (cs : Cs) (x : D) : Option D := ((lstOf cs x).bind boolsOf).map fun bs => .bl (bs.any id)

mutual
def ltD : D → D → Bool
  | .int i, .int j => decide (i < j)
  | .str x, .str y => decide (x.cps.toList < y.cps.toList)
  | .tup xs, .tup ys => ltDs xs ys
  | .lst xs, .lst ys => ltDs xs ys
  | _, _ => false
def ltDs : List D → List D → Bool
  | [], [] => false
  | [], _ :: _ => true
  | _ :: _, [] => false
  | x :: xs, y :: ys => if x = y then ltDs xs ys else ltD x y
end
mutual
def likeD : D → D → Bool
  | .int _, .int _ => true
  | .str _, .str _ => true
  | .tup xs, .tup ys => likeDs xs ys
  | .lst xs, .lst ys => likeDs xs ys
  | _, _ => false
def likeDs : List D → List D → Bool
  | x :: xs, y :: ys => likeD x y && likeDs xs ys
  | _, _ => true
end
def isTup1 : D → Bool
  | .tup (_ :: _) => true
  | _ => false
def isTup : D → Bool
  | .tup _ => true
  | _ => false
def sortable (ds : List D) : Bool := ds.all (fun d => d.fit && ds.all (likeD d)) && (ds.all isTup1 || ds.all fun d => !isTup d) && decide (ds.length ≤ SIZE)
def sortD (ds : List D) : Option (List D) := if sortable ds then some (ds.mergeSort fun x y => !ltD y x) else none
def lSorted (a : E) : EL := fun env cs => bnd (a env cs) fun x cs => out ((lstOf cs x).bind sortD) cs
def intsOf : List D → Option (List Int)
  | [] => some []
  | .int i :: xs => (intsOf xs).map (i :: ·)
  | _ :: _ => none
def insS (i : Int) : List Int → List Int
  | [] => [i]
  | j :: r => if i < j then i :: j :: r else if i = j then j :: r else j :: insS i r
def sortS (ns : List Int) : List Int := ns.foldr insS []
def lSortSet (a : E) : EL := fun env cs => bnd (a env cs) fun x cs => out (((lstOf cs x).bind intsOf).bind fun ns => if ns.length < 64 then some ((sortS ns).map .int) else none) cs

structure It where
  items : List D
  chk : Cs → Bool
abbrev I := Env → Cs → Option (R It)
def sameL (k : Nat) (xs : List D) (cs : Cs) : Bool := match cs[k]? with
  | some (.lst ys) => D.beqs ys xs
  | _ => false
def sameD (k : Nat) (ks vs : List D) (cs : Cs) : Bool := match cs[k]? with
  | some (.dct ls ws) => D.beqs ls ks && D.beqs ws vs
  | _ => false
def stays (cs : Cs) : D → Cs → Bool
  | .cell k => fun cs' => eqCell cs'[k]? cs[k]?
  | _ => fun _ => true
def iLst (a : E) : I := fun env cs => bnd (a env cs) fun x cs => out ((lstOf cs x).map fun xs => ⟨xs, stays cs x⟩) cs
def tupOf : D → Option (List D)
  | .tup xs => some xs
  | _ => none
def iTup (a : E) : I := fun env cs => bnd (a env cs) fun x cs => out ((tupOf x).map fun xs => ⟨xs, fun _ => true⟩) cs
def iRange (a : E) : I := fun env cs => bnd (a env cs) fun x cs => match x with
  | .int n => if okR n then some (.v ⟨rng 0 n, fun _ => true⟩ cs) else none
  | _ => none
def iRange2 (a b : E) : I := fun env cs => bnd (a env cs) fun x cs => bnd (b env cs) fun y cs => match x, y with
  | .int l, .int h => if okR l && okR h then some (.v ⟨rng l h, fun _ => true⟩ cs) else none
  | _, _ => none
def pairs (k : Nat) : List D → List D
  | [] => []
  | x :: xs => .tup [.int k, x] :: pairs (k + 1) xs
def iEnum (a : E) : I := fun env cs => bnd (a env cs) fun x cs => out ((lstOf cs x).map fun xs => ⟨pairs 0 xs, stays cs x⟩) cs
def iEnumT (a : E) : I := fun env cs => bnd (a env cs) fun x cs => out ((tupOf x).map fun xs => ⟨pairs 0 xs, fun _ => true⟩) cs
def iZip (a b : E) : I := fun env cs => bnd (a env cs) fun x cs => bnd (b env cs) fun y cs => out ((seqOf cs x).bind fun xs => (seqOf cs y).map fun ys =>
  ⟨(xs.zip ys).map fun p => .tup [p.1, p.2], fun cs' => stays cs x cs' && stays cs y cs'⟩) cs
def iRev (a : E) : I := fun env cs => bnd (a env cs) fun x cs => out ((lstOf cs x).map fun xs => ⟨xs.reverse, stays cs x⟩) cs
def iKeys (a : E) : I := fun env cs => bnd (a env cs) fun x cs => out ((dctOf cs x).map fun p => ⟨p.1, stays cs x⟩) cs
def iVals (a : E) : I := fun env cs => bnd (a env cs) fun x cs => out ((dctOf cs x).map fun p => ⟨p.2, stays cs x⟩) cs
def iItems (a : E) : I := fun env cs => bnd (a env cs) fun x cs => out ((dctOf cs x).map fun p => ⟨(p.1.zip p.2).map fun q => .tup [q.1, q.2], stays cs x⟩) cs

abbrev G := D → Env → Cs → Option Env
def gN (i : Nat) : G := fun d env _ => some (env.set i (some d))
def gAll : List G → List D → Env → Cs → Option Env
  | [], [], env, _ => some env
  | g :: gs, d :: ds, env, cs => (g d env cs).bind fun env' => gAll gs ds env' cs
  | _, _, _, _ => none
def gT (gs : List G) : G := fun d env cs => match d with
  | .tup ds => gAll gs ds env cs
  | _ => none
def gL (gs : List G) : G := fun d env cs => (lstOf cs d).bind fun ds => gAll gs ds env cs

def wipe (env : Env) : List Nat → Env
  | [] => env
  | v :: vs => (wipe env vs).set v none
def lcLoop (env : Env) (g : G) (t e : E) (chk : Cs → Bool) : List D → List D → Cs → Option (R (List D))
  | [], acc, cs => if chk cs then some (.v acc cs) else none
  | x :: xs, acc, cs => if chk cs then
      (match g x env cs with
      | none => none
      | some env' => match t env' cs with
        | some (.v (.bl true) cs) => (match e env' cs with
          | some (.v y cs) => if acc.length < SIZE then lcLoop env g t e chk xs (acc ++ [y]) cs else none
          | _ => none)
        | some (.v (.bl false) cs) => lcLoop env g t e chk xs acc cs
        | _ => none)
    else none
def lComp (vs : List Nat) (i : I) (g : G) (t e : E) : EL := fun env cs => bnd (i env cs) fun it cs => lcLoop (wipe env vs) g t e it.chk it.items [] cs
def eYes : E := eC (.bl true)

def call (f : Fn) (a : EL) : E := fun env cs => bnd (a env cs) fun xs cs => f xs cs
def popped (f : Fn) : Fn := fun xs cs => match f xs cs with
  | some (.v d cs') => if popOk cs.length cs cs' then (frozen cs.length cs' d).map fun d' => .v d' (cs'.take cs.length) else none
  | some (.x c cs') => if popOk cs.length cs cs' then some (.x c (cs'.take cs.length)) else none
  | none => none
def make (c : Nat) (f : Fn) : Fn := fun xs cs => match f (.cell cs.length :: xs) (cs ++ [.obj c []]) with
  | some (.v .non cs') => some (.v (.cell cs.length) cs')
  | some (.x c cs') => some (.x c cs')
  | _ => none
def oFld (c i : Nat) (cs : Cs) (x : D) : Option D := (objOf cs x).bind fun p => if p.1 = c then p.2[i]? else none

def setCell (k : Nat) (c : Cell) (cs : Cs) : Cs := cs.set k c
def m1 (ok : Cs → D → Bool) (op : Cs → D → List D → Option (D × Cs)) (a : E) (as : EL) : E := fun env cs => bnd (a env cs) fun x cs => if ok cs x then (bnd (as env cs) fun ys cs => match op cs x ys with
  | some (d, cs') => some (.v d cs')
  | none => none) else none
def isL (cs : Cs) (x : D) : Bool := (lstOf cs x).isSome
def isD (cs : Cs) (x : D) : Bool := (dctOf cs x).isSome
def cellL (cs : Cs) : D → Option (Nat × List D)
  | .cell k => match cs[k]? with
    | some (.lst xs) => some (k, xs)
    | _ => none
  | _ => none
def oAppend (cs : Cs) (x : D) (ys : List D) : Option (D × Cs) := match cellL cs x, ys with
  | some (k, xs), [y] => if xs.length < SIZE then some (.non, cs.set k (.lst (xs ++ [y]))) else none
  | _, _ => none
def oExtend (cs : Cs) (x : D) (ys : List D) : Option (D × Cs) := match cellL cs x, ys with
  | some (k, xs), [y] => (match ownOf cs y with
    | some zs => if xs.length + zs.length ≤ SIZE then some (.non, cs.set k (.lst (xs ++ zs))) else none
    | none => none)
  | _, _ => none
def oPop (cs : Cs) (x : D) (ys : List D) : Option (D × Cs) := match cellL cs x, ys with
  | some (k, xs), [] => xs.getLast?.map fun y => (y, cs.set k (.lst xs.dropLast))
  | _, _ => none
def oPopAt (cs : Cs) (x : D) (ys : List D) : Option (D × Cs) := match cellL cs x, ys with
  | some (k, xs), [.int i] => if 0 ≤ i ∧ i < 16777216 then (xs[i.toNat]?).map fun y => (y, cs.set k (.lst (xs.eraseIdx i.toNat))) else none
  | _, _ => none
def oInsert (cs : Cs) (x : D) (ys : List D) : Option (D × Cs) := match cellL cs x, ys with
  | some (k, xs), [.int i, y] => if 0 ≤ i ∧ i.toNat ≤ xs.length ∧ xs.length < SIZE then some (.non, cs.set k (.lst (xs.take i.toNat ++ y :: xs.drop i.toNat))) else none
  | _, _ => none

inductive O where
  | nx (env : Env) (cs : Cs) | rt (d : D) (cs : Cs) | bk (env : Env) (cs : Cs) | ct (env : Env) (cs : Cs) | x (c : Nat) (env : Env) (cs : Cs)
abbrev S := Env → Cs → Option O
def thn {α : Type} (env : Env) (m : Option (R α)) (f : α → Cs → Option O) : Option O := match m with
  | some (.v a cs) => f a cs
  | some (.x c cs) => some (.x c env cs)
  | none => none
section
variable {α : Type} {a : α} {c : Nat} {env : Env} {cs : Cs} {f : α → Cs → Option O}
@[simp] theorem thn_v : thn env (some (.v a cs)) f = f a cs := rfl
@[simp] theorem thn_x : thn env (some (.x c cs) : Option (R α)) f = some (.x c env cs) := rfl
@[simp] theorem thn_n : thn env (none : Option (R α)) f = none := rfl
end
def sNext : S := fun env cs => some (.nx env cs)
def sSeq (a b : S) : S := fun env cs => match a env cs with
  | some (.nx env' cs') => b env' cs'
  | o => o
def sSet (i : Nat) (e : E) : S := fun env cs => thn env (e env cs) fun d cs => some (.nx (env.set i (some d)) cs)
def sAsg (g : G) (e : E) : S := fun env cs => thn env (e env cs) fun d cs => (g d env cs).map fun env' => .nx env' cs
def sPar (i j : Nat) (a b : E) : S := fun env cs => thn env (a env cs) fun x cs => thn env (b env cs) fun y cs => some (.nx ((env.set i (some x)).set j (some y)) cs)
def sAug (i : Nat) (op : Cs → D → D → Option D) (e : E) : S := fun env cs => match env[i]? with
  | some (some x) => thn env (e env cs) fun y cs => (op cs x y).map fun z => .nx (env.set i (some z)) cs
  | _ => none
def sExpr (e : E) : S := fun env cs => thn env (e env cs) fun _ cs => some (.nx env cs)
def sRet (e : E) : S := fun env cs => thn env (e env cs) fun d cs => some (.rt d cs)
def sRetN : S := fun _ cs => some (.rt .non cs)
def sRaise (c : Nat) : S := fun env cs => some (.x c env cs)
def sBreak : S := fun env cs => some (.bk env cs)
def sCont : S := fun env cs => some (.ct env cs)
def sIf (t : E) (a b : S) : S := fun env cs => thn env (t env cs) fun d cs => match d with
  | .bl true => a env cs
  | .bl false => b env cs
  | _ => none
def putL (cs : Cs) (o i v : D) : Option Cs := match cellL cs o, i with
  | some (k, xs), .int z => (ixN xs.length z).map fun j => cs.set k (.lst (xs.set j v))
  | _, _ => none
def putD (cs : Cs) (o i v : D) : Option Cs := match cellD cs o with
  | some (k, ks, vs) => if isKey i ∧ ks.length < SIZE then some (cs.set k (.dct (put i v ks vs).1 (put i v ks vs).2)) else none
  | _ => none
def sPut (op : Cs → D → D → D → Option Cs) (o i e : E) : S := fun env cs => thn env (e env cs) fun v cs => thn env (o env cs) fun x cs => thn env (i env cs) fun y cs => (op cs x y v).map fun cs' => .nx env cs'
def putF (i : Nat) (cs : Cs) (o v : D) : Option Cs := match o with
  | .cell k => (match cs[k]? with
    | some (.obj c fs) => if i < fs.length then some (cs.set k (.obj c (fs.set i v))) else if i = fs.length then some (cs.set k (.obj c (fs ++ [v]))) else none
    | _ => none)
  | _ => none
def sFld (i : Nat) (o e : E) : S := fun env cs => thn env (e env cs) fun v cs => thn env (o env cs) fun x cs => (putF i cs x v).map fun cs' => .nx env cs'
def whileL (t : E) (b : S) : Nat → S
  | 0 => fun _ _ => none
  | f + 1 => fun env cs => thn env (t env cs) fun d cs => match d with
    | .bl true => (match b env cs with
      | some (.nx env' cs') => whileL t b f env' cs'
      | some (.ct env' cs') => whileL t b f env' cs'
      | some (.bk env' cs') => some (.nx env' cs')
      | o => o)
    | .bl false => some (.nx env cs)
    | _ => none
def sWhile (t : E) (b : S) : S := whileL t b FUEL
def forL (g : G) (b : S) (chk : Cs → Bool) : List D → S
  | [] => fun env cs => if chk cs then some (.nx env cs) else none
  | x :: xs => fun env cs => if chk cs then (match g x env cs with
      | none => none
      | some env' => match b env' cs with
        | some (.nx env' cs') => forL g b chk xs env' cs'
        | some (.ct env' cs') => forL g b chk xs env' cs'
        | some (.bk env' cs') => some (.nx env' cs')
        | o => o)
    else none
def sFor (i : I) (g : G) (b : S) : S := fun env cs => thn env (i env cs) fun it cs => forL g b it.chk it.items env cs
def fn (ps n : Nat) (b : S) : Fn := fun xs cs => if xs.length = ps then (match b (xs.map some ++ List.replicate (n - ps) none) cs with
    | some (.rt d cs') => some (.v d cs')
    | some (.nx _ cs') => some (.v .non cs')
    | some (.x c _ cs') => some (.x c cs')
    | _ => none) else none
end Mi
end
section
set_option linter.all false
namespace Mi
open PySem
def isO (c : Nat) (cs : Cs) (x : D) : Bool := match objOf cs x with
  | some (c', _) => decide (c' = c)
  | none => false
def meth (c : Nat) (f : Fn) (a : E) (l : EL) : E := fun env cs => bnd (a env cs) fun x cs => if isO c cs x then (bnd (l env cs) fun xs cs => f (x :: xs) cs) else none
def putO (c i : Nat) (cs : Cs) (o v : D) : Option Cs := match o with
  | .cell k => (match cs[k]? with
    | some (.obj c' fs) => if c' = c then (if i < fs.length then some (cs.set k (.obj c' (fs.set i v))) else if i = fs.length then some (cs.set k (.obj c' (fs ++ [v]))) else none) else none
    | _ => none)
  | _ => none
def sPutO (c i : Nat) (o e : E) : S := fun env cs => thn env (e env cs) fun v cs => thn env (o env cs) fun x cs => (putO c i cs x v).map fun cs' => .nx env cs'
def make' (c : Nat) (f : Fn) : Fn := fun xs cs => bnd (f (.cell cs.length :: xs) (cs ++ [.obj c []])) fun d cs' => match d with
  | .non => some (.v (.cell cs.length) cs')
  | _ => none
def pick (c : Nat) : List ((Nat → Option Bool) × S) → Option (Option S)
  | [] => some none
  | (m, s) :: r => match m c with
    | some true => some (some s)
    | some false => pick c r
    | none => none
def sTry (b : S) (hs : List ((Nat → Option Bool) × S)) : S := fun env cs => match b env cs with
  | some (.x c env' cs') => (match pick c hs with
    | some (some s) => s env' cs'
    | some none => some (.x c env' cs')
    | none => none)
  | o => o
def lckOf (cs : Cs) : D → Option (List D × List D)
  | .cell k => match cs[k]? with
    | some (.lck ks vs) => some (ks, vs)
    | _ => none
  | _ => none
def iLck (a : E) : I := fun env cs => bnd (a env cs) fun x cs => out ((lckOf cs x).map fun p => ⟨p.1, fun _ => true⟩) cs
def unl (k : Nat) (cs : Cs) : Option Cs := match cs[k]? with
  | some (.lck ks vs) => some (cs.set k (.dct ks vs))
  | _ => none
def unlS (k : Nat) : Option O → Option O
  | some (.nx env cs) => (unl k cs).map fun cs => .nx env cs
  | some (.rt d cs) => (unl k cs).map fun cs => .rt d cs
  | some (.bk env cs) => (unl k cs).map fun cs => .bk env cs
  | some (.ct env cs) => (unl k cs).map fun cs => .ct env cs
  | _ => none
def unlR {α : Type} (k : Nat) : Option (R α) → Option (R α)
  | some (.v d cs) => (unl k cs).map fun cs => .v d cs
  | _ => none
def sLock (a : E) (s : S) : S := fun env cs => match a env cs with
  | some (.v x _) => (match cellD cs x with
    | some (k, ks, vs) => unlS k (s env (cs.set k (.lck ks vs)))
    | none => none)
  | _ => none
def lLock (a : E) (l : EL) : EL := fun env cs => match a env cs with
  | some (.v x _) => (match cellD cs x with
    | some (k, ks, vs) => unlR k (l env (cs.set k (.lck ks vs)))
    | none => none)
  | _ => none
def lKeys (a : E) : EL := fun env cs => bnd (a env cs) fun x cs => out ((dctOf cs x).map fun p => p.1) cs
def sortI (ns : List Int) : List Int := ns.mergeSort fun a b => decide (a ≤ b)
def lSortK (a : E) : EL := fun env cs => bnd (a env cs) fun x cs => out ((dctOf cs x).bind fun p => (intsOf p.1).bind fun ns => if ns.length < 64 then some ((sortI ns).map .int) else none) cs
def iZipL (a b : E) : I := fun env cs => bnd (a env cs) fun x cs => bnd (b env cs) fun y cs => out ((lstOf cs x).bind fun xs => (lstOf cs y).map fun ys =>
  ⟨(xs.zip ys).map fun p => .tup [p.1, p.2], fun cs' => stays cs x cs' && stays cs y cs'⟩) cs
def oLenU (cs : Cs) (d : D) : Option D := (cellD cs d).map fun p => .int p.2.1.length
def eCutT (a : E) (lo hi : Option E) : E := fun env cs => bnd (a env cs) fun x cs => bnd (partE lo env cs) fun l cs => bnd (partE hi env cs) fun h cs => out ((tupOf x).map fun xs => .tup (cut xs l h)) cs
def oDivmod : Cs → D → D → Option D
  | _, .int i, .int j => if 0 < j ∧ j.natAbs.log2 < 9000 then some (.tup [.int (i / j), .int (i % j)]) else none
  | _, _, _ => none
def oIs : Cs → D → D → Option D
  | _, .bl a, .bl b => some (.bl (decide (a = b)))
  | _, _, _ => none
def oIsNot : Cs → D → D → Option D
  | _, .bl a, .bl b => some (.bl (!decide (a = b)))
  | _, _, _ => none
def lk : List (Nat × Bool) → Nat → Option Bool
  | [], _ => none
  | (c, b) :: r, k => if c = k then some b else lk r k
def flatD : D → Bool
  | .int _ => true
  | .str _ => true
  | _ => false
def oInF (cs : Cs) (x y : D) : Option D := (seqOf cs y).bind fun xs => if flatD x && xs.all flatD then some (.bl (decide (x ∈ xs))) else none
def lBackF (a b : E) : EL := fun env cs => bnd (a env cs) fun x cs => bnd (partE (some b) env cs) fun y cs => out ((lstOf cs x).bind fun xs => match y with
  | some i => if 0 ≤ i ∧ i < (xs.length : Int) then some (xs.take (i.toNat + 1)).reverse else none
  | none => none) cs
end Mi
end
section
set_option Elab.async false
set_option linter.all false
set_option maxRecDepth 100000
set_option maxHeartbeats 4000000
namespace Br
open PySem PySem.Spec PyProof.Rows L2

abbrev Tab := Nat → Option (Addr × List Str)
def keyD : Key → Mi.D
  | .inl i => .int i
  | .inr x => .str x
section
variable (K : PySem.W.Frag) (T : Tab) (α : List Addr) (F : Hp)
mutual
def Rp : Mi.D → V → Prop
  | .non, v => v = .non
  | .bl b, v => v = .bl b
  | .int i, v => v = .int i
  | .str x, v => v = .str x
  | .tup xs, v => ∃ a vs, v = .ref a ∧ SqT K F a vs ∧ Rps xs vs
  | .lst xs, v => ∃ a vs, v = .ref a ∧ F a = some (.lst vs) ∧ Rps xs vs
  | .fro xs, v => ∃ a vs, v = .ref a ∧ SqL K F a vs ∧ Rps xs vs
  | .dct _ _, _ => False
  | .obj c fs, v => ∃ (a C dx : Addr) (nm : List Str) (gs : List (Str × V)), v = .ref a ∧ T c = some (C, nm) ∧ F a = some (.ins C dx gs) ∧ gs.map (·.1) = nm.take gs.length ∧ Rps fs (gs.map (·.2))
  | .cell k, v => ∃ a, α[k]? = some a ∧ v = .ref a
def Rps : List Mi.D → List V → Prop
  | [], vs => vs = []
  | x :: xs, vs => ∃ v r, vs = v :: r ∧ Rp x v ∧ Rps xs r
end
def COk (H : Hp) (a : Addr) : Mi.Cell → Prop
  | .lst xs => ∃ vs, H a = some (.lst vs) ∧ Rps K T α F xs vs
  | .dct ks ws => ∃ kvs : List (Key × V), H a = some (.dK kvs) ∧ kvs.map (fun p => keyD p.1) = ks ∧ Rps K T α F ws (kvs.map (·.2))
  | .obj c fs => ∃ (C dx : Addr) (nm : List Str) (gs : List (Str × V)), T c = some (C, nm) ∧ H a = some (.ins C dx gs) ∧ gs.map (·.1) = nm.take gs.length ∧ Rps K T α F fs (gs.map (·.2))
  | .lck ks ws => ∃ (o : Obj) (kvs : List (Key × V)), F a = some (.frz o (.dK kvs)) ∧ H a = some (.frz o (.dK kvs)) ∧ kvs.map (fun p => keyD p.1) = ks ∧ Rps K T α F ws (kvs.map (·.2))
  | .tdc ks ws => ∃ kvs : List (List Key × V), H a = some (.dT kvs) ∧ kvs.map (fun p => Mi.D.tup (p.1.map keyD)) = ks ∧ Rps K T α F ws (kvs.map (·.2))
end
structure FLe (F F' : Hp) : Prop where
  rd : ∀ a u, Rd F a u → Rd F' a u
  ex : ∀ a o, F a = some o → (∀ kvs, o ≠ .dK kvs) → (∀ kvs, o ≠ .dT kvs) → F' a = some o
theorem FLe.refl (F : Hp) : FLe F F := ⟨fun _ _ h => h, fun _ _ h _ _ => h⟩
theorem FLe.trans {F F1 F2 : Hp} (a : FLe F F1) (b : FLe F1 F2) : FLe F F2 := ⟨fun x u h => b.rd x u (a.rd x u h), fun x o h h1 h2 => b.ex x o (a.ex x o h h1 h2) h1 h2⟩
theorem FLe.of_same {F F' : Hp} (h : Same F F') : FLe F F' := ⟨fun a u r => by
  rcases r with r | ⟨o, r⟩
  · exact .inl (h _ _ r)
  · exact .inr ⟨o, h _ _ r⟩, fun a o r _ _ => h _ _ r⟩
structure Lt (α : List Addr) (F : Hp) (α' : List Addr) (F' : Hp) : Prop where
  al : α <+: α'
  fl : FLe F F'
structure Nx (α : List Addr) (F H : Hp) (α' : List Addr) (F' H' : Hp) : Prop extends Lt α F α' F' where
  fr : ∀ b o, H b = some o → F b = none → b ∉ α → H' b = some o ∧ F' b = none ∧ b ∉ α'
  dom : ∀ b, H' b = none → H b = none
theorem Lt.refl (α : List Addr) (F : Hp) : Lt α F α F := ⟨List.prefix_rfl, FLe.refl F⟩
theorem Lt.trans {α α1 α2 : List Addr} {F F1 F2 : Hp} (a : Lt α F α1 F1) (b : Lt α1 F1 α2 F2) : Lt α F α2 F2 := ⟨a.al.trans b.al, a.fl.trans b.fl⟩
section
variable {K : PySem.W.Frag} {T : Tab} {α α' : List Addr} {F F' H : Hp}
theorem FLe.sqL {a : Addr} {xs : List V} (h : FLe F F') (s : SqL K F a xs) : SqL K F' a xs := by
  rcases s with s | s
  · exact .inl (h.rd _ _ s)
  · exact .inr s
theorem FLe.sqT {a : Addr} {xs : List V} (h : FLe F F') (s : SqT K F a xs) : SqT K F' a xs := by
  rcases s with s | s
  · exact .inl (h.rd _ _ s)
  · exact .inr s
theorem pre_get {l m : List Addr} (h : l <+: m) {k : Nat} {a : Addr} (e : l[k]? = some a) : m[k]? = some a := by
  obtain ⟨r, rfl⟩ := h
  rw [List.getElem?_append_left (List.getElem?_eq_some_iff.mp e).1]
  exact e
mutual
theorem Rp.mono (h : Lt α F α' F') : ∀ (d : Mi.D) (v : V), Rp K T α F d v → Rp K T α' F' d v
  | .non, _, r => r
  | .bl _, _, r => r
  | .int _, _, r => r
  | .str _, _, r => r
  | .tup xs, _, r => by
    obtain ⟨a, vs, e, s, q⟩ := r
    exact ⟨a, vs, e, h.fl.sqT s, Rps.mono h xs vs q⟩
  | .lst xs, _, r => by
    obtain ⟨a, vs, e, s, q⟩ := r
    exact ⟨a, vs, e, h.fl.ex _ _ s (fun _ z => nomatch z) (fun _ z => nomatch z), Rps.mono h xs vs q⟩
  | .fro xs, _, r => by
    obtain ⟨a, vs, e, s, q⟩ := r
    exact ⟨a, vs, e, h.fl.sqL s, Rps.mono h xs vs q⟩
  | .dct _ _, _, r => r.elim
  | .obj c fs, _, r => by
    obtain ⟨a, C, dx, nm, gs, e, t, s, k, q⟩ := r
    exact ⟨a, C, dx, nm, gs, e, t, h.fl.ex _ _ s (fun _ z => nomatch z) (fun _ z => nomatch z), k, Rps.mono h fs _ q⟩
  | .cell k, _, r => by
    obtain ⟨a, e, q⟩ := r
    exact ⟨a, pre_get h.al e, q⟩
theorem Rps.mono (h : Lt α F α' F') : ∀ (ds : List Mi.D) (vs : List V), Rps K T α F ds vs → Rps K T α' F' ds vs
  | [], _, r => r
  | d :: ds, _, r => by
    obtain ⟨v, s, e, p, q⟩ := r
    exact ⟨v, s, e, Rp.mono h d v p, Rps.mono h ds s q⟩
end
theorem COk.mono (h : Lt α F α' F') {a : Addr} {c : Mi.Cell} (r : COk K T α F H a c) : COk K T α' F' H a c := by
  cases c with
  | lst xs =>
    obtain ⟨vs, e, q⟩ := r
    exact ⟨vs, e, Rps.mono h _ _ q⟩
  | dct ks ws =>
    obtain ⟨kvs, e, k, q⟩ := r
    exact ⟨kvs, e, k, Rps.mono h _ _ q⟩
  | obj c fs =>
    obtain ⟨C, dx, nm, gs, t, e, k, q⟩ := r
    exact ⟨C, dx, nm, gs, t, e, k, Rps.mono h _ _ q⟩
  | lck ks ws =>
    obtain ⟨o, kvs, f, e, k, q⟩ := r
    exact ⟨o, kvs, h.fl.ex _ _ f (fun _ z => nomatch z) (fun _ z => nomatch z), e, k, Rps.mono h _ _ q⟩
  | tdc ks ws =>
    obtain ⟨kvs, e, k, q⟩ := r
    exact ⟨kvs, e, k, Rps.mono h _ _ q⟩
mutual
theorem Rp.under : ∀ (d : Mi.D) (v : V), Rp K T α F d v → d.under α.length = true
  | .non, _, _ => rfl
  | .bl _, _, _ => rfl
  | .int _, _, _ => rfl
  | .str _, _, _ => rfl
  | .tup xs, _, r => by
    obtain ⟨_, vs, _, _, q⟩ := r
    simp only [Mi.D.under]
    exact Rps.unders xs vs q
  | .lst xs, _, r => by
    obtain ⟨_, vs, _, _, q⟩ := r
    simp only [Mi.D.under]
    exact Rps.unders xs vs q
  | .fro xs, _, r => by
    obtain ⟨_, vs, _, _, q⟩ := r
    simp only [Mi.D.under]
    exact Rps.unders xs vs q
  | .dct _ _, _, r => r.elim
  | .obj c fs, _, r => by
    obtain ⟨_, _, _, _, gs, _, _, _, _, q⟩ := r
    simp only [Mi.D.under]
    exact Rps.unders fs _ q
  | .cell k, _, r => by
    obtain ⟨a, e, _⟩ := r
    simp only [Mi.D.under]
    exact decide_eq_true (List.getElem?_eq_some_iff.mp e).1
theorem Rps.unders : ∀ (ds : List Mi.D) (vs : List V), Rps K T α F ds vs → Mi.D.unders α.length ds = true
  | [], _, _ => rfl
  | d :: ds, _, r => by
    obtain ⟨v, s, _, p, q⟩ := r
    simp only [Mi.D.unders, Bool.and_eq_true]
    exact ⟨Rp.under d v p, Rps.unders ds s q⟩
end
theorem Rps.length : ∀ {ds : List Mi.D} {vs : List V}, Rps K T α F ds vs → vs.length = ds.length
  | [], vs, r => by
    have e : vs = [] := r
    rw [e]
    rfl
  | d :: ds, _, r => by
    obtain ⟨v, s, rfl, _, q⟩ := r
    rw [List.length_cons, List.length_cons, Rps.length q]
theorem Rps.get : ∀ {ds : List Mi.D} {vs : List V} {i : Nat} {d : Mi.D}, Rps K T α F ds vs → ds[i]? = some d → ∃ v, vs[i]? = some v ∧ Rp K T α F d v
  | [], _, _, _, _, e => by simp at e
  | x :: ds, _, 0, d, r, e => by
    obtain ⟨v, s, rfl, p, q⟩ := r
    have e' : x = d := by simpa using e
    subst e'
    exact ⟨v, rfl, p⟩
  | x :: ds, _, i + 1, d, r, e => by
    obtain ⟨v, s, rfl, p, q⟩ := r
    obtain ⟨w, h1, h2⟩ := Rps.get (i := i) q (by simpa using e)
    exact ⟨w, by simpa using h1, h2⟩
theorem Rps.append : ∀ {ds es : List Mi.D} {vs ws : List V}, Rps K T α F ds vs → Rps K T α F es ws → Rps K T α F (ds ++ es) (vs ++ ws)
  | [], _, vs, _, r, q => by
    have e : vs = [] := r
    rw [e]
    exact q
  | d :: ds, es, _, ws, r, q => by
    obtain ⟨v, s, rfl, p, t⟩ := r
    exact ⟨v, s ++ ws, rfl, p, Rps.append t q⟩
theorem Rps.one {d : Mi.D} {v : V} (h : Rp K T α F d v) : Rps K T α F [d] [v] := ⟨v, [], rfl, h, rfl⟩
theorem Rps.take : ∀ {ds : List Mi.D} {vs : List V} (n : Nat), Rps K T α F ds vs → Rps K T α F (ds.take n) (vs.take n)
  | _, _, 0, _ => rfl
  | [], vs, n + 1, r => by
    have e : vs = [] := r
    rw [e]
    rfl
  | d :: ds, _, n + 1, r => by
    obtain ⟨v, s, rfl, p, q⟩ := r
    exact ⟨v, s.take n, rfl, p, Rps.take n q⟩
theorem Rps.drop : ∀ {ds : List Mi.D} {vs : List V} (n : Nat), Rps K T α F ds vs → Rps K T α F (ds.drop n) (vs.drop n)
  | _, _, 0, r => r
  | [], vs, n + 1, r => by
    have e : vs = [] := r
    rw [e]
    rfl
  | d :: ds, _, n + 1, r => by
    obtain ⟨v, s, rfl, p, q⟩ := r
    exact Rps.drop n q
theorem Rps.set {d : Mi.D} {w : V} (h : Rp K T α F d w) : ∀ {ds : List Mi.D} {vs : List V} (i : Nat), Rps K T α F ds vs → Rps K T α F (ds.set i d) (vs.set i w)
  | [], vs, _, r => by
    have e : vs = [] := r
    rw [e]
    rfl
  | x :: ds, _, 0, r => by
    obtain ⟨v, s, rfl, p, q⟩ := r
    exact ⟨w, s, rfl, h, q⟩
  | x :: ds, _, i + 1, r => by
    obtain ⟨v, s, rfl, p, q⟩ := r
    exact ⟨v, s.set i w, rfl, p, Rps.set h i q⟩
theorem Rps.reverse : ∀ {ds : List Mi.D} {vs : List V}, Rps K T α F ds vs → Rps K T α F ds.reverse vs.reverse
  | [], vs, r => by
    have e : vs = [] := r
    rw [e]
    rfl
  | d :: ds, _, r => by
    obtain ⟨v, s, rfl, p, q⟩ := r
    rw [List.reverse_cons, List.reverse_cons]
    exact (Rps.reverse q).append (Rps.one p)
theorem Rps.ints : ∀ {ns : List Int} {vs : List V}, Rps K T α F (ns.map Mi.D.int) vs → vs = ns.map V.int
  | [], vs, r => r
  | n :: ns, vs, r => by
    obtain ⟨v, s, rfl, p, q⟩ := r
    have e : v = .int n := p
    rw [e, Rps.ints q]
    rfl
theorem Rps.of_ints : ∀ (ns : List Int), Rps K T α F (ns.map Mi.D.int) (ns.map V.int)
  | [] => rfl
  | n :: ns => ⟨_, _, rfl, rfl, Rps.of_ints ns⟩
end

structure RC (K : PySem.W.Frag) (T : Tab) (α : List Addr) (F : Hp) (cs : Mi.Cs) (H : Hp) : Prop where
  same : Same F H
  len : α.length = cs.length
  nd : α.Nodup
  out : ∀ a ∈ α, F a = none ∨ ∃ o kvs, F a = some (.frz o (.dK kvs))
  ok : ∀ (k : Nat) (a : Addr) (c : Mi.Cell), α[k]? = some a → cs[k]? = some c → COk K T α F H a c
structure Ev (K : PySem.W.Frag) (T : Tab) (α : List Addr) (F : Hp) (env : Mi.Env) (σ : L2.St) : Prop where
  len : env.length = σ.length
  at_ : ∀ (i : Nat) (d : Mi.D), env[i]? = some (some d) → ∃ v, σ[i]? = some (some v) ∧ Rp K T α F d v
section
variable {K : PySem.W.Frag} {T : Tab} {α α' : List Addr} {F F' H H' : Hp} {cs cs' : Mi.Cs} {env : Mi.Env} {σ : L2.St}
theorem Ev.mono (h : Lt α F α' F') (e : Ev K T α F env σ) : Ev K T α' F' env σ := ⟨e.len, fun i d q => by
  obtain ⟨v, h1, h2⟩ := e.at_ i d q
  exact ⟨v, h1, Rp.mono h _ _ h2⟩⟩
theorem Ev.set {d : Mi.D} {v : V} (e : Ev K T α F env σ) (h : Rp K T α F d v) (i : Nat) : Ev K T α F (env.set i (some d)) (σ.set i (some v)) := ⟨by simp [e.len], fun j d' q => by
  by_cases hj : i = j
  · subst hj
    have hl : i < env.length := by
      have := (List.getElem?_eq_some_iff.mp q).1
      simpa using this
    rw [List.getElem?_set_self hl] at q
    cases q
    exact ⟨v, by rw [List.getElem?_set_self (by rw [← e.len]; exact hl)], h⟩
  · rw [List.getElem?_set_ne hj] at q
    obtain ⟨w, h1, h2⟩ := e.at_ j d' q
    exact ⟨w, by rw [List.getElem?_set_ne hj]; exact h1, h2⟩⟩
theorem Ev.wipe (e : Ev K T α F env σ) : ∀ vs : List Nat, Ev K T α F (Mi.wipe env vs) (L2.wipe σ vs)
  | [] => e
  | v :: vs => by
    have ih := Ev.wipe e vs
    refine ⟨by simp [Mi.wipe, L2.wipe, ih.len], fun j d q => ?_⟩
    simp only [Mi.wipe] at q
    by_cases hj : v = j
    · subst hj
      have hl : v < (Mi.wipe env vs).length := by
        have := (List.getElem?_eq_some_iff.mp q).1
        simpa using this
      rw [List.getElem?_set_self hl] at q
      cases q
    · rw [List.getElem?_set_ne hj] at q
      obtain ⟨w, h1, h2⟩ := ih.at_ j d q
      refine ⟨w, ?_, h2⟩
      unfold L2.wipe
      rw [List.getElem?_set_ne hj]
      exact h1
theorem COk.some_of {a : Addr} {c : Mi.Cell} (h : COk K T α F H a c) : ∃ o, H a = some o := by
  cases c with
  | lst xs =>
    obtain ⟨vs, e, _⟩ := h
    exact ⟨_, e⟩
  | dct ks ws =>
    obtain ⟨kvs, e, _⟩ := h
    exact ⟨_, e⟩
  | obj c fs =>
    obtain ⟨C, dx, nm, gs, t, e, _⟩ := h
    exact ⟨_, e⟩
  | lck ks ws =>
    obtain ⟨o, kvs, _, e, _⟩ := h
    exact ⟨_, e⟩
  | tdc ks ws =>
    obtain ⟨kvs, e, _⟩ := h
    exact ⟨_, e⟩
theorem COk.heap {a : Addr} {c : Mi.Cell} (h : COk K T α F H a c) (e : H' a = H a) : COk K T α F H' a c := by
  cases c with
  | lst xs =>
    obtain ⟨vs, q, r⟩ := h
    exact ⟨vs, e.trans q, r⟩
  | dct ks ws =>
    obtain ⟨kvs, q, r⟩ := h
    exact ⟨kvs, e.trans q, r⟩
  | obj c fs =>
    obtain ⟨C, dx, nm, gs, t, q, r⟩ := h
    exact ⟨C, dx, nm, gs, t, e.trans q, r⟩
  | lck ks ws =>
    obtain ⟨o, kvs, f, q, r⟩ := h
    exact ⟨o, kvs, f, e.trans q, r⟩
  | tdc ks ws =>
    obtain ⟨kvs, q, r⟩ := h
    exact ⟨kvs, e.trans q, r⟩
theorem RC.there (r : RC K T α F cs H) {a : Addr} (h : a ∈ α) : ∃ o, H a = some o := by
  obtain ⟨k, hk, e⟩ := List.mem_iff_getElem.mp h
  have h2 : k < cs.length := by rw [← r.len]; exact hk
  exact (r.ok k a cs[k] (by rw [List.getElem?_eq_getElem hk, e]) (List.getElem?_eq_getElem h2)).some_of
theorem RC.new_out (r : RC K T α F cs H) {p : Addr} (h : H p = none) : F p = none ∧ p ∉ α := by
  refine ⟨r.same.free h, fun m => ?_⟩
  obtain ⟨o, e⟩ := r.there m
  rw [h] at e
  cases e
theorem Nx.refl (α : List Addr) (F H : Hp) : Nx α F H α F H := ⟨Lt.refl α F, fun _ _ h h1 h2 => ⟨h, h1, h2⟩, fun _ h => h⟩
theorem Nx.trans {α α1 α2 : List Addr} {F F1 F2 H H1 H2 : Hp} (a : Nx α F H α1 F1 H1) (b : Nx α1 F1 H1 α2 F2 H2) : Nx α F H α2 F2 H2 :=
  ⟨a.toLt.trans b.toLt, fun x o h h1 h2 => by
    obtain ⟨q, q1, q2⟩ := a.fr x o h h1 h2
    exact b.fr x o q q1 q2, fun x h => a.dom x (b.dom x h)⟩
theorem RC.ground (r : RC K T α F cs H) {p : Addr} {o : HO} (h : H p = none) : RC K T α (upd F p o) cs (upd H p o) ∧ Nx α F H α (upd F p o) (upd H p o) := by
  obtain ⟨hf, ha⟩ := r.new_out h
  have lt : Lt α F α (upd F p o) := ⟨List.prefix_rfl, FLe.of_same fun b u e => by rw [upd_ne (ne_of_none e hf)]; exact e⟩
  refine ⟨⟨fun b u e => ?_, r.len, r.nd, fun a m => ?_, fun k a c h1 h2 => ?_⟩, ⟨lt, fun b u e h1 h2 => ?_, fun b e => ?_⟩⟩
  rotate_left 3
  · have hb := ne_of_none e h
    rw [upd_ne hb, upd_ne hb]
    exact ⟨e, h1, h2⟩
  · by_cases hb : b = p
    · subst hb
      exact h
    · rw [upd_ne hb] at e
      exact e
  · by_cases hb : b = p
    · subst hb
      rw [upd_same] at e ⊢
      exact e
    · rw [upd_ne hb] at e ⊢
      exact r.same _ _ e
  · rw [upd_ne (show a ≠ p from fun z => by subst z; exact ha m)]
    exact r.out a m
  · refine ((r.ok k a c h1 h2).mono lt).heap ?_
    exact upd_ne fun z => ha (z ▸ List.mem_of_getElem? h1)
theorem RC.ground' {α0 : List Addr} {F0 H0 : Hp} (r : RC K T α F cs H) (nx : Nx α0 F0 H0 α F H) {p : Addr} {o : HO} (h0 : H0 p = none) (h : H p = some o) (hf : F p = none) (ha : p ∉ α) : RC K T α (upd F p o) cs H ∧ Lt α F α (upd F p o) ∧ Nx α0 F0 H0 α (upd F p o) H := by
  have lt : Lt α F α (upd F p o) := ⟨List.prefix_rfl, FLe.of_same fun b u e => by rw [upd_ne (ne_of_none e hf)]; exact e⟩
  refine ⟨⟨fun b u e => ?_, r.len, r.nd, fun a m => ?_, fun k a c h1 h2 => ?_⟩, lt, ⟨nx.toLt.trans lt, fun b u e h1 h2 => ?_, nx.dom⟩⟩
  rotate_left 3
  · obtain ⟨q, q1, q2⟩ := nx.fr b u e h1 h2
    rw [upd_ne (ne_of_none e h0)]
    exact ⟨q, q1, q2⟩
  · by_cases hb : b = p
    · subst hb
      rw [upd_same] at e
      rw [h]
      exact e
    · rw [upd_ne hb] at e
      exact r.same _ _ e
  · rw [upd_ne (show a ≠ p from fun z => by subst z; exact ha m)]
    exact r.out a m
  · exact (r.ok k a c h1 h2).mono lt
theorem app_pre (α : List Addr) (F : Hp) (p : Addr) : Lt α F (α ++ [p]) F := ⟨List.prefix_append _ _, FLe.refl F⟩
theorem RC.push {α0 : List Addr} {F0 H0 : Hp} (r : RC K T α F cs H) (nx : Nx α0 F0 H0 α F H) {p : Addr} {c : Mi.Cell} (h0 : H0 p = none) (hf : F p = none) (ha : p ∉ α) (h : COk K T α F H p c) : RC K T (α ++ [p]) F (cs ++ [c]) H ∧ Nx α0 F0 H0 (α ++ [p]) F H := by
  refine ⟨?_, ⟨nx.toLt.trans (app_pre α F p), fun b u e h1 h2 => ?_, nx.dom⟩⟩
  rotate_left 1
  · obtain ⟨q, q1, q2⟩ := nx.fr b u e h1 h2
    refine ⟨q, q1, fun m => ?_⟩
    rcases List.mem_append.mp m with m | m
    · exact q2 m
    · exact ne_of_none e h0 (List.mem_singleton.mp m)
  refine ⟨r.same, by simp [r.len], ?_, fun a m => ?_, fun k a c' h1 h2 => ?_⟩
  · refine List.nodup_append.mpr ⟨r.nd, by simp, fun a ha' b hb e => ?_⟩
    subst e
    exact ha (by rw [← List.mem_singleton.mp hb]; exact ha')
  · rcases List.mem_append.mp m with m | m
    · exact r.out a m
    · rw [List.mem_singleton.mp m]
      exact .inl hf
  · by_cases hk : k < α.length
    · rw [List.getElem?_append_left hk] at h1
      rw [List.getElem?_append_left (by rw [← r.len]; exact hk)] at h2
      exact (r.ok k a c' h1 h2).mono (app_pre α F p)
    · have hl := (List.getElem?_eq_some_iff.mp h1).1
      rw [List.length_append, List.length_singleton] at hl
      have hk' : k = α.length := by omega
      subst hk'
      rw [List.getElem?_append_right (Nat.le_refl _), Nat.sub_self] at h1
      rw [r.len, List.getElem?_append_right (Nat.le_refl _), Nat.sub_self] at h2
      cases h1
      cases h2
      exact h.mono (app_pre α F p)
theorem RC.write (r : RC K T α F cs H) {k : Nat} {a : Addr} {c : Mi.Cell} {o : HO} (ha : α[k]? = some a) (hn : ∀ ob u, H a = some (.frz ob u) → False) (h : COk K T α F (upd H a o) a c) : RC K T α F (cs.set k c) (upd H a o) ∧ Nx α F H α F (upd H a o) := by
  have hm : a ∈ α := List.mem_of_getElem? ha
  have hk := (List.getElem?_eq_some_iff.mp ha).1
  refine ⟨?_, ⟨Lt.refl α F, fun b u e h1 h2 => ?_, fun b e => ?_⟩⟩
  rotate_left 1
  · rw [upd_ne (show b ≠ a from fun z => by subst z; exact h2 hm)]
    exact ⟨e, h1, h2⟩
  · by_cases hb : b = a
    · subst hb
      rw [upd_same] at e
      cases e
    · rw [upd_ne hb] at e
      exact e
  refine ⟨fun b u e => ?_, by simp [r.len], r.nd, r.out, fun j b c' h1 h2 => ?_⟩
  · have : b ≠ a := fun z => by
      subst z
      rcases r.out b hm with q | ⟨o', kvs, q⟩
      · rw [q] at e
        cases e
      · exact hn _ _ (r.same _ _ q)
    rw [upd_ne this]
    exact r.same _ _ e
  · by_cases hj : k = j
    · subst hj
      rw [ha] at h1
      cases h1
      rw [List.getElem?_set_self (by rw [← r.len]; exact hk)] at h2
      cases h2
      exact h
    · rw [List.getElem?_set_ne hj] at h2
      refine (r.ok j b c' h1 h2).heap (upd_ne fun z => hj ?_)
      subst z
      exact nodup_ix' r.nd ha h1
where
  nodup_ix' {l : List Addr} (hN : l.Nodup) {i j : Nat} {x : Addr} (a : l[i]? = some x) (b : l[j]? = some x) : i = j := by
    obtain ⟨h1, e1⟩ := List.getElem?_eq_some_iff.mp a
    obtain ⟨h2, e2⟩ := List.getElem?_eq_some_iff.mp b
    exact (List.getElem_inj hN).mp (e1.trans e2.symm)
theorem RC.get (r : RC K T α F cs H) {k : Nat} {c : Mi.Cell} (h : cs[k]? = some c) : ∃ a, α[k]? = some a ∧ COk K T α F H a c := by
  have hk : k < α.length := by rw [r.len]; exact (List.getElem?_eq_some_iff.mp h).1
  exact ⟨α[k], List.getElem?_eq_getElem hk, r.ok k _ c (List.getElem?_eq_getElem hk) h⟩
end

section
variable (K : PySem.W.Frag) (T : Tab) (W : WX)
def Out {A : Type} (σ : L2.St) (α : List Addr) (F H : Hp) (m : Option (Mi.R A)) (k : List Addr → Hp → Mi.Cs → Hp → A → Prop) : Prop :=
  match m with
  | none => False
  | some (.v a cs) => ∀ α' F' H', Nx α F H α' F' H' → RC K T α' F' cs H' → k α' F' cs H' a
  | some (.x c cs) => ∀ α' F' H' C nm, Nx α F H α' F' H' → RC K T α' F' cs H' → T c = some (C, nm) → W (.ref C) none σ H'
end
section
variable {K : PySem.W.Frag} {T : Tab} {W : WX} {σ : L2.St} {α α' : List Addr} {F F' H H' : Hp} {cs : Mi.Cs} {A B : Type}
theorem Out.mono {m : Option (Mi.R A)} {k k' : List Addr → Hp → Mi.Cs → Hp → A → Prop} (h : Out K T W σ α F H m k) (hk : ∀ α' F' cs H' a, Nx α F H α' F' H' → RC K T α' F' cs H' → k α' F' cs H' a → k' α' F' cs H' a) : Out K T W σ α F H m k' := by
  match m, h with
  | some (.v a cs), h => exact fun α' F' H' lt rc => hk _ _ _ _ _ lt rc (h α' F' H' lt rc)
  | some (.x c cs), h => exact h
theorem Out.later {m : Option (Mi.R A)} {k : List Addr → Hp → Mi.Cs → Hp → A → Prop} (lt : Nx α F H α' F' H') (h : Out K T W σ α F H m k) : Out K T W σ α' F' H' m k := by
  match m, h with
  | some (.v a cs), h => exact fun α'' F'' H'' lt' rc => h α'' F'' H'' (lt.trans lt') rc
  | some (.x c cs), h => exact fun α'' F'' H'' C nm lt' rc t => h α'' F'' H'' C nm (lt.trans lt') rc t
theorem Out.bnd {m : Option (Mi.R A)} {f : A → Mi.Cs → Option (Mi.R B)} {k : List Addr → Hp → Mi.Cs → Hp → B → Prop} (h : Out K T W σ α F H (Mi.bnd m f) k) :
    Out K T W σ α F H m fun α1 F1 cs1 H1 a => Out K T W σ α1 F1 H1 (f a cs1) k := by
  match m, h with
  | some (.v a cs), h => exact fun α' F' H' lt rc => Out.later lt h
  | some (.x c cs), h => exact h
  | none, h => exact h.elim
theorem Out.out {m : Option A} {k : List Addr → Hp → Mi.Cs → Hp → A → Prop} (h : Out K T W σ α F H (Mi.out m cs) k) (rc : RC K T α F cs H) : ∃ a, m = some a ∧ k α F cs H a := by
  cases m with
  | none => exact h.elim
  | some a => exact ⟨a, rfl, h α F H (Nx.refl _ _ _) rc⟩
theorem Out.v {a : A} {k : List Addr → Hp → Mi.Cs → Hp → A → Prop} (h : Out K T W σ α F H (some (.v a cs)) k) (lt : Nx α F H α' F' H') (rc : RC K T α' F' cs H') : k α' F' cs H' a := h α' F' H' lt rc
end

section
variable (K : PySem.W.Frag) (T : Tab) (W : WX)
def MV (e : Mi.E) : TE := fun σ H Q => ∃ α F env cs, RC K T α F cs H ∧ Ev K T α F env σ ∧ Out K T W σ α F H (e env cs) fun α' F' _ H' d => ∀ v, Rp K T α' F' d v → Q v H'
def MT (e : Mi.E) : TT := fun σ H Q => ∃ α F env cs, RC K T α F cs H ∧ Ev K T α F env σ ∧ Out K T W σ α F H (e env cs) fun _ _ _ H' d => ∃ b, d = .bl b ∧ Q b H'
def MA (l : Mi.EL) : TA := fun σ H Q => ∃ α F env cs, RC K T α F cs H ∧ Ev K T α F env σ ∧ Out K T W σ α F H (l env cs) fun α' F' _ H' ds => ∀ vs, Rps K T α' F' ds vs → Q vs H'
def ML (l : Mi.EL) : TE := fun σ H Q => ∃ α F env cs, RC K T α F cs H ∧ Ev K T α F env σ ∧ Out K T W σ α F H (l env cs) fun α' F' _ H' ds => ∀ p vs, H p = none → H' p = some (.lst vs) → F' p = none → p ∉ α' →
  Rps K T α' F' ds vs → Q (.ref p) H'
end
theorem PE.imp {X : Cx} {e : Expr} {t t' : TE} (h : PE X e t) (i : ∀ σ H Q, t' σ H Q → t σ H Q) : PE X e t' := ⟨fun pins s σ H Q I q => h.run pins s σ H Q I (i σ H Q q)⟩
theorem PT.imp {X : Cx} {e : Expr} {t t' : TT} (h : PT X e t) (i : ∀ σ H Q, t' σ H Q → t σ H Q) : PT X e t' := ⟨fun pins s σ H Q I q => h.run pins s σ H Q I (i σ H Q q)⟩
theorem PW.imp {X : Cx} {e : Expr} {t t' : TT} (h : PW X e t) (i : ∀ σ H Q, t' σ H Q → t σ H Q) : PW X e t' := ⟨fun w pins s σ H Q I q => h.run w pins s σ H Q I (i σ H Q q)⟩
theorem PA.imp {X : Cx} {e : List Expr} {t t' : TA} (h : PA X e t) (i : ∀ σ H Q, t' σ H Q → t σ H Q) : PA X e t' := ⟨fun pos pins s σ H Q I q => h.run pos pins s σ H Q I (i σ H Q q)⟩
theorem PS.imp {X : Cx} {e : Stmt} {t t' : TS} (h : PS X e t) (i : ∀ D σ H, t' D σ H → t D σ H) : PS X e t' := ⟨fun pins s σ H D I q => h.run pins s σ H D I (i D σ H q)⟩
theorem PSs.imp {X : Cx} {e : List Stmt} {t t' : TS} (h : PSs X e t) (i : ∀ D σ H, t' D σ H → t D σ H) : PSs X e t' := ⟨fun pins s σ H D I q => h.run pins s σ H D I (i D σ H q)⟩

section
variable {X : Cx} {T : Tab} {W : WX} {a b c : Expr} {ea eb ec : Mi.E} {pos : Pos}
def Op2 (K : PySem.W.Frag) (T : Tab) (r : R2) (op : Mi.Cs → Mi.D → Mi.D → Option Mi.D) : Prop := ∀ α F cs H x y z v w, RC K T α F cs H → Rp K T α F x v → Rp K T α F y w → op cs x y = some z →
  ∀ Q : VK, (∀ α' F' H' u, Nx α F H α' F' H' → RC K T α' F' cs H' → Rp K T α' F' z u → Q u H') → r v w H Q
theorem mv_op {r : R2} {op : Mi.Cs → Mi.D → Mi.D → Option Mi.D} {K : PySem.W.Frag} (hs : Op2 K T r op) (σ : L2.St) (H : Hp) (Q : VK) (h : MV K T W (Mi.e2 op ea eb) σ H Q) : tOp r (MV K T W ea) (MV K T W eb) σ H Q := by
  obtain ⟨α, F, env, cs, rc, ev, h⟩ := h
  refine ⟨α, F, env, cs, rc, ev, h.bnd.mono fun α1 F1 cs1 H1 x lt1 rc1 o1 v r1 => ?_⟩
  refine ⟨α1, F1, env, cs1, rc1, ev.mono lt1.toLt, o1.bnd.mono fun α2 F2 cs2 H2 y lt2 rc2 o2 w r2 => ?_⟩
  obtain ⟨z, e, _⟩ := o2.out rc2
  rw [e] at o2
  exact hs α2 F2 cs2 H2 x y z v w rc2 (Rp.mono lt2.toLt _ _ r1) r2 e Q fun α3 F3 H3 u lt3 rc3 r3 => o2.v lt3 rc3 u r3
def Op1 (K : PySem.W.Frag) (T : Tab) (r : V → Hp → VK → Prop) (op : Mi.Cs → Mi.D → Option Mi.D) : Prop := ∀ α F cs H x z v, RC K T α F cs H → Rp K T α F x v → op cs x = some z →
  ∀ Q : VK, (∀ α' F' H' u, Nx α F H α' F' H' → RC K T α' F' cs H' → Rp K T α' F' z u → Q u H') → r v H Q
theorem mv_un {r : V → Hp → VK → Prop} {op : Mi.Cs → Mi.D → Option Mi.D} {K : PySem.W.Frag} (hs : Op1 K T r op) (σ : L2.St) (H : Hp) (Q : VK) (h : MV K T W (Mi.e1 op ea) σ H Q) : MV K T W ea σ H fun x H1 => r x H1 Q := by
  obtain ⟨α, F, env, cs, rc, ev, h⟩ := h
  refine ⟨α, F, env, cs, rc, ev, h.bnd.mono fun α1 F1 cs1 H1 x lt1 rc1 o1 v r1 => ?_⟩
  obtain ⟨z, e, _⟩ := o1.out rc1
  rw [e] at o1
  exact hs α1 F1 cs1 H1 x z v rc1 r1 e Q fun α3 F3 H3 u lt3 rc3 r3 => o1.v lt3 rc3 u r3

theorem br_var (i : Nat) {x : Str} (hv : Vis X.env.scope x) (hN : X.N[i]? = some x := by rfl) (hd : (x == ("__debug__" : Str)) = false := by decide) (hcd : (x == ("__classdict__" : Str)) = false := by decide) : PE X (.Name x pos) (MV X.K T W (Mi.eVar i)) := by
  refine PE.imp (pe_var hN hv hd hcd) fun σ H Q h => ?_
  obtain ⟨α, F, env, cs, rc, ev, h⟩ := h
  unfold Mi.eVar at h
  split at h
  · rename_i d e
    obtain ⟨v, h1, h2⟩ := ev.at_ i d e
    exact ⟨v, h1, h.v (Nx.refl _ _ _) rc v h2⟩
  · exact h.elim
theorem mv_c {K : PySem.W.Frag} {d : Mi.D} {v : V} (hv : ∀ α F, Rp K T α F d v) (σ : L2.St) (H : Hp) (Q : VK) (h : MV K T W (Mi.eC d) σ H Q) : tC v σ H Q := by
  obtain ⟨α, F, env, cs, rc, ev, h⟩ := h
  exact h.v (Nx.refl _ _ _) rc v (hv α F)
theorem br_int {i : Int} {j} : PE X (.Constant (.int i) j pos) (MV X.K T W (Mi.eC (.int i))) := PE.imp pe_int (mv_c (v := .int i) fun _ _ => rfl)
theorem br_bl {i : Bool} {j} : PE X (.Constant (.bool i) j pos) (MV X.K T W (Mi.eC (.bl i))) := PE.imp pe_bl (mv_c (v := .bl i) fun _ _ => rfl)
theorem br_non {j} : PE X (.Constant .none j pos) (MV X.K T W (Mi.eC .non)) := PE.imp pe_non (mv_c (v := .non) fun _ _ => rfl)
theorem br_str {x : Str} {j} : PE X (.Constant (.str x) j pos) (MV X.K T W (Mi.eC (.str x))) := PE.imp pe_str (mv_c (v := .str x) fun _ _ => rfl)
theorem br_gint {x : Str} {i : Int} {t : Tok} (hg : Gl X x) (hm : X.mg x = some (.int i t)) (hd : (x == ("__debug__" : Str)) = false := by decide) : PE X (.Name x pos) (MV X.K T W (Mi.eC (.int i))) :=
  PE.imp (pe_glob (v := .int i) hg hm ⟨t, rfl⟩ hd) (mv_c (v := .int i) fun _ _ => rfl)

theorem br_bin {op : Operator} {r : R2} {f : Mi.Cs → Mi.D → Mi.D → Option Mi.D} (ho : OpR X (binaryOp op) r) (hs : Op2 X.K T r f) (ha : PE X a (MV X.K T W ea)) (hb : PE X b (MV X.K T W eb)) : PE X (.BinOp a op b pos) (MV X.K T W (Mi.e2 f ea eb)) :=
  PE.imp (pe_op ho ha hb) (mv_op hs)
theorem br_cmp {op : CmpOp} {r : R2} {f : Mi.Cs → Mi.D → Mi.D → Option Mi.D} (ho : OpR X (compareOp op) r) (hs : Op2 X.K T r f) (ha : PE X a (MV X.K T W ea)) (hb : PE X b (MV X.K T W eb)) (hm : behindInMarks op b = false) :
    PE X (.Compare a [op] [b] pos) (MV X.K T W (Mi.e2 f ea eb)) := PE.imp (pe_cmpR ho ha hb hm) (mv_op hs)
theorem bt_cmp {op : CmpOp} {r : R2} {f : Mi.Cs → Mi.D → Mi.D → Option Mi.D} (ho : OpR X (compareOp op) r) (hs : Op2 X.K T r f) (ha : PE X a (MV X.K T W ea)) (hb : PE X b (MV X.K T W eb)) (hm : behindInMarks op b = false) :
    PT X (.Compare a [op] [b] pos) (MT X.K T W (Mi.e2 f ea eb)) := PT.imp (pt_cmpR ho ha hb hm) fun σ H Q h => by
  obtain ⟨α, F, env, cs, rc, ev, h⟩ := h
  refine mv_op hs σ H _ ⟨α, F, env, cs, rc, ev, h.mono fun α1 F1 cs1 H1 d _ _ q v r => ?_⟩
  obtain ⟨k, rfl, q⟩ := q
  exact ⟨k, r, q⟩
theorem br_un {op : UnaryOp} {r : V → Hp → VK → Prop} {f : Mi.Cs → Mi.D → Option Mi.D} (ho : UnR X (unaryOp op) r) (hs : Op1 X.K T r f) (ha : PE X a (MV X.K T W ea)) : PE X (.UnaryOp op a pos) (MV X.K T W (Mi.e1 f ea)) :=
  PE.imp (pe_un ho ha) (mv_un hs)

section
variable {K : PySem.W.Frag}
theorem o2_int {g : Int → Int → V} {r : Int → Int → Mi.D} {op : Mi.Cs → Mi.D → Mi.D → Option Mi.D} (h : ∀ cs x y z, op cs x y = some z → ∃ i j, x = .int i ∧ y = .int j ∧ z = r i j) (hg : ∀ α F i j, Rp K T α F (r i j) (g i j)) : Op2 K T (rI0 g) op := by
  intro α F cs H x y z v w rc rx ry e Q q
  obtain ⟨i, j, rfl, rfl, rfl⟩ := h cs x y z e
  exact ⟨i, j, rx, ry, q α F H _ (Nx.refl _ _ _) rc (hg α F i j)⟩
theorem o2_intC {C : Int → Int → Prop} {g : Int → Int → V} {r : Int → Int → Mi.D} {op : Mi.Cs → Mi.D → Mi.D → Option Mi.D} (h : ∀ cs x y z, op cs x y = some z → ∃ i j, x = .int i ∧ y = .int j ∧ z = r i j ∧ C i j) (hg : ∀ α F i j, Rp K T α F (r i j) (g i j)) : Op2 K T (rI C g) op := by
  intro α F cs H x y z v w rc rx ry e Q q
  obtain ⟨i, j, rfl, rfl, rfl, hc⟩ := h cs x y z e
  exact ⟨i, j, rx, ry, hc, q α F H _ (Nx.refl _ _ _) rc (hg α F i j)⟩
end
theorem o_add {K : PySem.W.Frag} : Op2 K T (rI0 fun i j => .int (i + j)) Mi.oAdd := o2_int (r := fun i j => .int (i + j)) (fun cs x y z h => by
  unfold Mi.oAdd at h; split at h
  · cases h; exact ⟨_, _, rfl, rfl, rfl⟩
  · cases h) fun _ _ _ _ => rfl
theorem o_sub {K : PySem.W.Frag} : Op2 K T (rI0 fun i j => .int (i - j)) Mi.oSub := o2_int (r := fun i j => .int (i - j)) (fun cs x y z h => by
  unfold Mi.oSub at h; split at h
  · cases h; exact ⟨_, _, rfl, rfl, rfl⟩
  · cases h) fun _ _ _ _ => rfl
theorem o_lt {K : PySem.W.Frag} : Op2 K T (rI0 fun i j => .bl (decide (i < j))) Mi.oLt := o2_int (r := fun i j => .bl (decide (i < j))) (fun cs x y z h => by
  unfold Mi.oLt at h; split at h
  · cases h; exact ⟨_, _, rfl, rfl, rfl⟩
  · cases h) fun _ _ _ _ => rfl
theorem o_le {K : PySem.W.Frag} : Op2 K T (rI0 fun i j => .bl (decide (i ≤ j))) Mi.oLe := o2_int (r := fun i j => .bl (decide (i ≤ j))) (fun cs x y z h => by
  unfold Mi.oLe at h; split at h
  · cases h; exact ⟨_, _, rfl, rfl, rfl⟩
  · cases h) fun _ _ _ _ => rfl
theorem o_gt {K : PySem.W.Frag} : Op2 K T (rI0 fun i j => .bl (decide (j < i))) Mi.oGt := o2_int (r := fun i j => .bl (decide (j < i))) (fun cs x y z h => by
  unfold Mi.oGt at h; split at h
  · cases h; exact ⟨_, _, rfl, rfl, rfl⟩
  · cases h) fun _ _ _ _ => rfl
theorem o_ge {K : PySem.W.Frag} : Op2 K T (rI0 fun i j => .bl (decide (j ≤ i))) Mi.oGe := o2_int (r := fun i j => .bl (decide (j ≤ i))) (fun cs x y z h => by
  unfold Mi.oGe at h; split at h
  · cases h; exact ⟨_, _, rfl, rfl, rfl⟩
  · cases h) fun _ _ _ _ => rfl
theorem o_mul {K : PySem.W.Frag} : Op2 K T (rI CMulW fun i j => .int (i * j)) Mi.oMul := o2_intC (r := fun i j => .int (i * j)) (fun cs x y z h => by
  unfold Mi.oMul at h; split at h
  · rename_i i j
    by_cases hc : i.natAbs.log2 + j.natAbs.log2 < 1000000
    · rw [if_pos hc] at h; cases h; exact ⟨_, _, rfl, rfl, rfl, hc⟩
    · rw [if_neg hc] at h; cases h
  · cases h) fun _ _ _ _ => rfl
theorem o_div {K : PySem.W.Frag} : Op2 K T (rI CDivW fun i j => .int (i / j)) Mi.oDiv := o2_intC (r := fun i j => .int (i / j)) (fun cs x y z h => by
  unfold Mi.oDiv at h; split at h
  · rename_i i j
    by_cases hc : 0 < j ∧ j.natAbs.log2 < 9000
    · rw [if_pos hc] at h; cases h; exact ⟨_, _, rfl, rfl, rfl, hc⟩
    · rw [if_neg hc] at h; cases h
  · cases h) fun _ _ _ _ => rfl
theorem o_mod {K : PySem.W.Frag} : Op2 K T (rI (fun _ j => 0 < j) fun i j => .int (i % j)) Mi.oMod := o2_intC (r := fun i j => .int (i % j)) (fun cs x y z h => by
  unfold Mi.oMod at h; split at h
  · rename_i i j
    by_cases hc : 0 < j
    · rw [if_pos hc] at h; cases h; exact ⟨_, _, rfl, rfl, rfl, hc⟩
    · rw [if_neg hc] at h; cases h
  · cases h) fun _ _ _ _ => rfl
theorem o_pow {K : PySem.W.Frag} : Op2 K T (rI CPow fun i j => .int (i ^ j.toNat)) Mi.oPow := o2_intC (r := fun i j => .int (i ^ j.toNat)) (fun cs x y z h => by
  unfold Mi.oPow at h; split at h
  · rename_i i j
    by_cases hc : 0 ≤ j ∧ j ≤ 1000000 ∧ i.natAbs < 2 ^ 64
    · rw [if_pos hc] at h; cases h; exact ⟨_, _, rfl, rfl, rfl, hc⟩
    · rw [if_neg hc] at h; cases h
  · cases h) fun _ _ _ _ => rfl
theorem scal_of {K : PySem.W.Frag} {α F x y v w} (h : Mi.scal x y = true) (rx : Rp K T α F x v) (ry : Rp K T α F y w) : L2.scal v w = true ∧ decide (v = w) = decide (x = y) := by
  cases x <;> cases y <;> simp only [Mi.scal, Bool.false_eq_true] at h
  · have e1 : v = .non := rx
    have e2 : w = .non := ry
    subst e1 e2
    exact ⟨rfl, by simp⟩
  · rename_i a b
    have e1 : v = .bl a := rx
    have e2 : w = .bl b := ry
    subst e1 e2
    exact ⟨rfl, by simp⟩
  · rename_i a b
    have e1 : v = .int a := rx
    have e2 : w = .int b := ry
    subst e1 e2
    exact ⟨rfl, by simp⟩
  · rename_i a b
    have e1 : v = .str a := rx
    have e2 : w = .str b := ry
    subst e1 e2
    exact ⟨rfl, by simp⟩
theorem o_eqS {K : PySem.W.Frag} : Op2 K T rEq Mi.oEqS := by
  intro α F cs H x y z v w rc rx ry e Q q
  unfold Mi.oEqS at e
  by_cases hc : Mi.scal x y = true
  · rw [if_pos hc] at e
    cases e
    obtain ⟨h1, h2⟩ := scal_of hc rx ry
    refine ⟨h1, q α F H _ (Nx.refl _ _ _) rc ?_⟩
    rw [h2]
    rfl
  · rw [if_neg hc] at e
    cases e
theorem o_neS {K : PySem.W.Frag} : Op2 K T rNe Mi.oNeS := by
  intro α F cs H x y z v w rc rx ry e Q q
  unfold Mi.oNeS at e
  by_cases hc : Mi.scal x y = true
  · rw [if_pos hc] at e
    cases e
    obtain ⟨h1, h2⟩ := scal_of hc rx ry
    refine ⟨h1, q α F H _ (Nx.refl _ _ _) rc ?_⟩
    rw [h2]
    rfl
  · rw [if_neg hc] at e
    cases e
theorem o_neg {K : PySem.W.Frag} : Op1 K T (rU fun i => .int (-i)) Mi.oNeg := by
  intro α F cs H x z v rc rx e Q q
  unfold Mi.oNeg at e
  split at e
  · cases e
    exact ⟨_, rx, q α F H _ (Nx.refl _ _ _) rc rfl⟩
  · cases e
end
end Br
end
section
set_option Elab.async false
set_option linter.all false
set_option maxRecDepth 100000
set_option maxHeartbeats 4000000
namespace Br
open PySem PySem.Spec PyProof.Rows L2

section
variable {K : PySem.W.Frag} {T : Tab} {α α' : List Addr} {F F' H H' : Hp} {cs cs' : Mi.Cs} {env : Mi.Env} {σ : L2.St}
theorem Rps.atI {ds : List Mi.D} {vs : List V} {i : Int} {d : Mi.D} (r : Rps K T α F ds vs) (h : Mi.atI ds i = some d) : ∃ v, L2.atI vs i = some v ∧ Rp K T α F d v := by
  have e : Mi.atI ds i = (L2.ixN ds.length i).bind fun j => ds[j]? := rfl
  rw [e, ← r.length] at h
  show ∃ v, ((L2.ixN vs.length i).bind fun j => vs[j]?) = some v ∧ _
  cases q : L2.ixN vs.length i with
  | none => rw [q] at h; cases h
  | some j =>
    rw [q] at h
    exact Rps.get r h
theorem Rps.ixN {ds : List Mi.D} {vs : List V} {i : Int} (r : Rps K T α F ds vs) : Mi.ixN ds.length i = L2.ixN vs.length i := by
  rw [← r.length]
  rfl
theorem Rps.cut {ds : List Mi.D} {vs : List V} {lo hi : Option Int} (r : Rps K T α F ds vs) : Rps K T α F (Mi.cut ds lo hi) (cutV vs lo hi) := by
  have e1 : ∀ n d o, Mi.sIx n d o = HT.sIx n d o := fun n d o => by cases o <;> rfl
  unfold Mi.cut cutV
  rw [e1, e1, r.length]
  exact (r.drop _).take _
theorem lstOf_of {x : Mi.D} {v : V} {xs : List Mi.D} (rc : RC K T α F cs H) (rx : Rp K T α F x v) (h : Mi.lstOf cs x = some xs) : ∃ a vs, v = .ref a ∧ SqL K H a vs ∧ Rps K T α F xs vs := by
  cases x <;> simp only [Mi.lstOf, reduceCtorEq] at h
  · obtain ⟨a, vs, e, s, q⟩ := rx
    cases h
    exact ⟨a, vs, e, .of (rc.same _ _ s), q⟩
  · rename_i k
    obtain ⟨a, ea, rfl⟩ := rx
    cases hc : cs[k]? with
    | none => rw [hc] at h; cases h
    | some c =>
      rw [hc] at h
      cases c <;> simp only [reduceCtorEq, Option.some.injEq] at h
      subst h
      obtain ⟨vs, e, q⟩ := rc.ok k a _ ea hc
      exact ⟨a, vs, rfl, .of e, q⟩
  · obtain ⟨a, vs, e, s, q⟩ := rx
    cases h
    exact ⟨a, vs, e, rc.same.seq s, q⟩
theorem ownOf_of {x : Mi.D} {v : V} {xs : List Mi.D} (rc : RC K T α F cs H) (rx : Rp K T α F x v) (h : Mi.ownOf cs x = some xs) : ∃ a vs, v = .ref a ∧ H a = some (.lst vs) ∧ Rps K T α F xs vs := by
  cases x <;> simp only [Mi.ownOf, reduceCtorEq] at h
  · obtain ⟨a, vs, e, s, q⟩ := rx
    cases h
    exact ⟨a, vs, e, rc.same _ _ s, q⟩
  · rename_i k
    obtain ⟨a, ea, rfl⟩ := rx
    cases hc : cs[k]? with
    | none => rw [hc] at h; cases h
    | some c =>
      rw [hc] at h
      cases c <;> simp only [reduceCtorEq, Option.some.injEq] at h
      subst h
      obtain ⟨vs, e, q⟩ := rc.ok k a _ ea hc
      exact ⟨a, vs, rfl, e, q⟩
theorem same_sqT {a : Addr} {xs : List V} (e : Same F H) (s : SqT K F a xs) : SqT K H a xs := by
  rcases s with (s | ⟨o, s⟩) | s
  · exact .inl (.inl (e _ _ s))
  · exact .inl (.inr ⟨o, e _ _ s⟩)
  · exact .inr s
theorem seqOf_of {x : Mi.D} {v : V} {xs : List Mi.D} (rc : RC K T α F cs H) (rx : Rp K T α F x v) (h : Mi.seqOf cs x = some xs) : ∃ a vs, v = .ref a ∧ (SqL K H a vs ∨ SqT K H a vs) ∧ Rps K T α F xs vs := by
  by_cases ht : ∃ ys, x = .tup ys
  · obtain ⟨ys, rfl⟩ := ht
    obtain ⟨a, vs, e, s, q⟩ := rx
    have e2 : ys = xs := Option.some.inj h
    subst e2
    exact ⟨a, vs, e, .inr (same_sqT rc.same s), q⟩
  · have h2 : Mi.lstOf cs x = some xs := by
      cases x <;> first | exact h | exact (ht ⟨_, rfl⟩).elim
    obtain ⟨a, vs, e, s, q⟩ := lstOf_of rc rx h2
    exact ⟨a, vs, e, .inl s, q⟩
theorem cellL_of {x : Mi.D} {v : V} {k : Nat} {xs : List Mi.D} (rc : RC K T α F cs H) (rx : Rp K T α F x v) (h : Mi.cellL cs x = some (k, xs)) : ∃ a vs, v = .ref a ∧ α[k]? = some a ∧ H a = some (.lst vs) ∧ Rps K T α F xs vs := by
  cases x <;> simp only [Mi.cellL, reduceCtorEq] at h
  rename_i k'
  obtain ⟨a, ea, rfl⟩ := rx
  cases hc : cs[k']? with
  | none => rw [hc] at h; cases h
  | some c =>
    rw [hc] at h
    cases c <;> simp only [reduceCtorEq, Option.some.injEq, Prod.mk.injEq] at h
    obtain ⟨rfl, rfl⟩ := h
    obtain ⟨vs, e, q⟩ := rc.ok _ a _ ea hc
    exact ⟨a, vs, rfl, ea, e, q⟩
theorem Rps.mono' {ds : List Mi.D} {vs : List V} (r : Rps K T α F ds vs) (h : Lt α F α' F') : Rps K T α' F' ds vs := Rps.mono h ds vs r
theorem Nx.alloc {p : Addr} {o : HO} (h : H p = none) : Nx α F H α F (upd H p o) := ⟨Lt.refl _ _, fun b u e h1 h2 => by rw [upd_ne (ne_of_none e h)]; exact ⟨e, h1, h2⟩, fun b e => by
  by_cases hb : b = p
  · subst hb
    exact h
  · rw [upd_ne hb] at e
    exact e⟩
theorem Out.bnd' {W : WX} {A B : Type} {m : Option (Mi.R A)} {f : A → Mi.Cs → Option (Mi.R B)} {k : List Addr → Hp → Mi.Cs → Hp → B → Prop} {k' : List Addr → Hp → Mi.Cs → Hp → A → Prop} (h : Out K T W σ α F H (Mi.bnd m f) k)
    (hk : ∀ α1 F1 cs1 H1 a, Nx α F H α1 F1 H1 → RC K T α1 F1 cs1 H1 → Out K T W σ α F H (f a cs1) k → k' α1 F1 cs1 H1 a) : Out K T W σ α F H m k' := by
  match m, h with
  | some (.v a cs), h => exact fun α' F' H' lt rc => hk _ _ _ _ _ lt rc h
  | some (.x c cs), h => exact h
  | none, h => exact h.elim
theorem RC.alloc (r : RC K T α F cs H) {p : Addr} {o : HO} (h : H p = none) : RC K T α F cs (upd H p o) := by
  obtain ⟨hf, ha⟩ := r.new_out h
  refine ⟨fun b u e => ?_, r.len, r.nd, r.out, fun k a c h1 h2 => ?_⟩
  · rw [upd_ne (ne_of_none e hf)]
    exact r.same _ _ e
  · refine (r.ok k a c h1 h2).heap (upd_ne fun z => ha ?_)
    subst z
    exact List.mem_of_getElem? h1
end
theorem size_eq : Mi.SIZE = sizeLine := by decide

section
variable {X : Cx} {T : Tab} {W : WX} {a b c : Expr} {ea eb ec : Mi.E} {l : Mi.EL} {es : List Expr} {pos : Pos}
theorem br_anil : PA X [] (MA X.K T W Mi.aNil) := PA.imp pa_nil fun σ H Q h => by
  obtain ⟨α, F, env, cs, rc, ev, h⟩ := h
  exact h.v (Nx.refl _ _ _) rc [] rfl
theorem br_acons {e : Expr} (he : PE X e (MV X.K T W ea)) (hr : PA X es (MA X.K T W l)) (hs : starEach (e :: es) X.env = (false, eval e X.env) :: starEach es X.env := by rfl) : PA X (e :: es) (MA X.K T W (Mi.aCons ea l)) :=
  PA.imp (pa_cons he hr hs) fun σ H Q h => by
    obtain ⟨α, F, env, cs, rc, ev, h⟩ := h
    refine ⟨α, F, env, cs, rc, ev, h.bnd.mono fun α1 F1 cs1 H1 x lt1 rc1 o1 v r1 => ?_⟩
    refine ⟨α1, F1, env, cs1, rc1, ev.mono lt1.toLt, o1.bnd.mono fun α2 F2 cs2 H2 xs lt2 rc2 o2 vs r2 => ?_⟩
    exact o2.v (Nx.refl _ _ _) rc2 (v :: vs) ⟨v, vs, rfl, Rp.mono lt2.toLt _ _ r1, r2⟩
theorem br_lst (h : PA X es (MA X.K T W l)) : PE X (.List es pos) (ML X.K T W (Mi.lDisp l)) := PE.imp (pe_lst h) fun σ H Q h => by
  obtain ⟨α, F, env, cs, rc, ev, h⟩ := h
  refine ⟨α, F, env, cs, rc, ev, h.bnd.mono fun α1 F1 cs1 H1 xs lt1 rc1 o1 vs r1 => ?_⟩
  by_cases hl : xs.length ≤ Mi.SIZE
  · rw [if_pos hl] at o1
    refine ⟨by rw [r1.length, ← size_eq]; exact hl, fun p hp => ?_⟩
    obtain ⟨hf, ha⟩ := rc1.new_out hp
    exact o1.v (Nx.alloc hp) (rc1.alloc hp) p vs (lt1.dom p hp) upd_same hf ha r1
  · rw [if_neg hl] at o1
    exact o1.elim
theorem br_tup {k} (h : PA X es (MA X.K T W l)) : PE X (.Tuple es k pos) (MV X.K T W (Mi.eTup l)) := PE.imp (pe_tup h) fun σ H Q h => by
  obtain ⟨α, F, env, cs, rc, ev, h⟩ := h
  refine ⟨α, F, env, cs, rc, ev, h.bnd.mono fun α1 F1 cs1 H1 xs lt1 rc1 o1 vs r1 => ?_⟩
  by_cases hl : xs.length ≤ Mi.SIZE
  · rw [if_pos hl] at o1
    refine ⟨by rw [r1.length, ← size_eq]; exact hl, fun p hp => ?_⟩
    obtain ⟨rc2, lt2⟩ := rc1.ground (o := .tup vs) hp
    exact o1.v lt2 rc2 (.ref p) ⟨p, vs, rfl, .of upd_same, r1.mono' lt2.toLt⟩
  · rw [if_neg hl] at o1
    exact o1.elim
theorem br_L {e : Expr} (h : PE X e (ML X.K T W l)) : PE X e (MV X.K T W (Mi.eL l)) := PE.imp h fun σ H Q h => by
  obtain ⟨α, F, env, cs, rc, ev, h⟩ := h
  refine ⟨α, F, env, cs, rc, ev, h.bnd' fun α1 F1 cs1 H1 xs lt1 rc1 o1 p vs h0 hp hf ha r1 => ?_⟩
  obtain ⟨rc3, lt3, nx3⟩ := rc1.ground' lt1 h0 hp hf ha
  exact o1 _ _ _ nx3 rc3 (.ref p) ⟨p, vs, rfl, upd_same, r1.mono' lt3⟩
theorem br_Lc {e : Expr} (h : PE X e (ML X.K T W l)) : PE X e (MV X.K T W (Mi.eLc l)) := PE.imp h fun σ H Q h => by
  obtain ⟨α, F, env, cs, rc, ev, h⟩ := h
  refine ⟨α, F, env, cs, rc, ev, h.bnd' fun α1 F1 cs1 H1 xs lt1 rc1 o1 p vs h0 hp hf ha r1 => ?_⟩
  obtain ⟨rc3, nx3⟩ := rc1.push lt1 h0 hf ha (c := .lst xs) ⟨vs, hp, r1⟩
  refine o1 _ _ _ nx3 rc3 (.ref p) ⟨p, ?_, rfl⟩
  rw [← rc1.len, List.getElem?_append_right (Nat.le_refl _), Nat.sub_self]
  rfl
theorem o_ix {K : PySem.W.Frag} : Op2 K T (fun x y H Q => rIxL K x y H Q ∨ rIxT K x y H Q) Mi.oIx := by
  intro α F cs H x y z v w rc rx ry e Q q
  unfold Mi.oIx at e
  split at e
  · rename_i i
    have ew : w = .int i := ry
    subst ew
    cases hs : Mi.seqOf cs x with
    | none => rw [hs] at e; cases e
    | some xs =>
      rw [hs] at e
      obtain ⟨p, vs, rfl, hq, r⟩ := seqOf_of rc rx hs
      obtain ⟨u, e1, r1⟩ := r.atI e
      have fin := q α F H u (Nx.refl _ _ _) rc r1
      rcases hq with hq | hq
      · exact .inl ⟨p, vs, i, u, rfl, rfl, hq, e1, fin⟩
      · exact .inr ⟨p, vs, i, u, rfl, rfl, hq, e1, fin⟩
  · cases e
theorem br_ix (ha : PE X a (MV X.K T W ea)) (hb : PE X b (MV X.K T W eb)) (hs : PlainIx b) : PE X (.Subscript a b pos) (MV X.K T W (Mi.e2 Mi.oIx ea eb)) := PE.imp (pe_ix (IxR.or ix_list ix_tup) ha hb hs) (mv_op o_ix)

section
variable {x : Str} {p : Pos} {id : String} {r : List V → Hp → VK → Prop} {f1 : Mi.Cs → Mi.D → Option Mi.D} {f2 : Mi.Cs → Mi.D → Mi.D → Option Mi.D}
theorem bB_1 (hc : CallR X (.builtin id) r) (hs : Op1 X.K T (fun v H Q => r [v] H Q) f1) (hg : Gl X x) (hm : X.mg x = none) (hv : bootBuiltins x = some (.builtin id)) (ha : PE X a (MV X.K T W ea)) (hn : x ≠ "__name__" := by decide) (hd : (x == ("__debug__" : Str)) = false := by decide)
    (na : starEach [a] X.env = (false, eval a X.env) :: starEach [] X.env := by rfl) : PE X (.Call (.Name x p) [a] [] pos) (MV X.K T W (Mi.e1 f1 ea)) := by
  refine PE.imp (pe_callB hc hg hm hv (pa_cons ha pa_nil na) hn hd ?_) fun σ H Q h => ?_
  · exact na
  · exact mv_un (r := fun v H Q => r [v] H Q) hs σ H Q h
theorem bB_2 (hc : CallR X (.builtin id) r) (hs : Op2 X.K T (fun v w H Q => r [v, w] H Q) f2) (hg : Gl X x) (hm : X.mg x = none) (hv : bootBuiltins x = some (.builtin id)) (ha : PE X a (MV X.K T W ea)) (hb : PE X b (MV X.K T W eb)) (hn : x ≠ "__name__" := by decide) (hd : (x == ("__debug__" : Str)) = false := by decide)
    (na : starEach [a, b] X.env = (false, eval a X.env) :: starEach [b] X.env := by rfl) (nb : starEach [b] X.env = (false, eval b X.env) :: starEach [] X.env := by rfl) (npl : (backTo pos (starEach [b] X.env)).any (·.1) = false := by rfl) :
    PE X (.Call (.Name x p) [a, b] [] pos) (MV X.K T W (Mi.e2 f2 ea eb)) := by
  refine PE.imp (pe_callB hc hg hm hv (pa_cons ha (pa_cons hb pa_nil nb) na) hn hd na npl) fun σ H Q h => ?_
  · exact mv_op (r := fun v w H Q => r [v, w] H Q) hs σ H Q h
theorem bT_1 (hc : CallR X (.type id) r) (hs : Op1 X.K T (fun v H Q => r [v] H Q) f1) (hg : Gl X x) (hm : X.mg x = none) (hv : bootBuiltins x = some (.type id)) (ha : PE X a (MV X.K T W ea)) (hn : x ≠ "__name__" := by decide) (hd : (x == ("__debug__" : Str)) = false := by decide)
    (na : starEach [a] X.env = (false, eval a X.env) :: starEach [] X.env := by rfl) : PE X (.Call (.Name x p) [a] [] pos) (MV X.K T W (Mi.e1 f1 ea)) := by
  refine PE.imp (pe_callTy hc hg hm hv (pa_cons ha pa_nil na) hn hd ?_) fun σ H Q h => ?_
  · exact na
  · exact mv_un (r := fun v H Q => r [v] H Q) hs σ H Q h
end

section
variable {K : PySem.W.Frag}
theorem o_abs : Op1 K T (fun v H Q => ∃ i, [v] = [V.int i] ∧ Q (.int (if i < 0 then -i else i)) H) Mi.oAbs := by
  intro α F cs H x z v rc rx e Q q
  unfold Mi.oAbs at e
  split at e
  · cases e
    have ev : v = .int _ := rx
    subst ev
    exact ⟨_, rfl, q α F H _ (Nx.refl _ _ _) rc rfl⟩
  · cases e
theorem o_int1 : Op1 K T (fun v H Q => (∃ i, [v] = [V.int i] ∧ Q (.int i) H) ∨ ∃ k, [v] = [V.bl k] ∧ Q (.int (if k then 1 else 0)) H) Mi.oInt := by
  intro α F cs H x z v rc rx e Q q
  unfold Mi.oInt at e
  split at e
  · cases e
    have ev : v = .int _ := rx
    subst ev
    exact .inl ⟨_, rfl, q α F H _ (Nx.refl _ _ _) rc rfl⟩
  · cases e
    have ev : v = .bl _ := rx
    subst ev
    exact .inr ⟨_, rfl, q α F H _ (Nx.refl _ _ _) rc rfl⟩
  · cases e
theorem o_len : Op1 K T (fun v H Q => ∃ p ys, [v] = [V.ref p] ∧ (SqL K H p ys ∨ SqT K H p ys) ∧ Q (.int ys.length) H) Mi.oLen := by
  intro α F cs H x z v rc rx e Q q
  unfold Mi.oLen at e
  cases hs : Mi.seqOf cs x with
  | none => rw [hs] at e; cases e
  | some xs =>
    rw [hs] at e
    cases e
    obtain ⟨p, vs, rfl, hq, r⟩ := seqOf_of rc rx hs
    refine ⟨p, vs, rfl, hq, q α F H _ (Nx.refl _ _ _) rc ?_⟩
    rw [r.length]
    rfl
theorem o_tuple : Op1 K T (fun v H Q => ∃ p ys, [v] = [V.ref p] ∧ ((SqL K H p ys ∧ ∀ l, H l = none → Q (.ref l) (upd H l (.tup ys))) ∨ (SqT K H p ys ∧ Q (.ref p) H))) Mi.oTuple := by
  intro α F cs H x z v rc rx e Q q
  unfold Mi.oTuple at e
  cases hs : Mi.seqOf cs x with
  | none => rw [hs] at e; cases e
  | some xs =>
    rw [hs] at e
    cases e
    obtain ⟨p, vs, rfl, hq, r⟩ := seqOf_of rc rx hs
    by_cases ht : ∃ ys, x = .tup ys
    · obtain ⟨ys, rfl⟩ := ht
      obtain ⟨a, vs', e', s, q'⟩ := rx
      have e2 : ys = xs := Option.some.inj hs
      subst e2
      cases e'
      exact ⟨p, vs', rfl, .inr ⟨same_sqT rc.same s, q α F H _ (Nx.refl _ _ _) rc ⟨p, vs', rfl, s, q'⟩⟩⟩
    · have h2 : Mi.lstOf cs x = some xs := by
        cases x <;> first | exact hs | exact (ht ⟨_, rfl⟩).elim
      obtain ⟨p', vs', e', s, q'⟩ := lstOf_of rc rx h2
      cases e'
      refine ⟨p, vs', rfl, .inl ⟨s, fun l hl => ?_⟩⟩
      obtain ⟨rc2, lt2⟩ := rc.ground (o := .tup vs') hl
      exact q α _ _ _ lt2 rc2 ⟨l, vs', rfl, .of upd_same, q'.mono' lt2.toLt⟩
end
theorem br_list {p : Pos} (hg : Gl X "list") (hm : X.mg "list" = none) (ha : PE X a (MV X.K T W ea)) (na : starEach [a] X.env = (false, eval a X.env) :: starEach [] X.env := by rfl) : PE X (.Call (.Name "list" p) [a] [] pos) (ML X.K T W (Mi.lList ea)) := by
  refine PE.imp (pe_callTy call_list_of hg hm boot_list (pa_cons ha pa_nil na) (he := na)) fun σ H Q h => ?_
  obtain ⟨α, F, env, cs, rc, ev, h⟩ := h
  refine ⟨α, F, env, cs, rc, ev, h.bnd.mono fun α1 F1 cs1 H1 x lt1 rc1 o1 v r1 => ?_⟩
  obtain ⟨xs, e, _⟩ := o1.out rc1
  rw [e] at o1
  obtain ⟨p, vs, rfl, hq, r⟩ := seqOf_of rc1 r1 e
  refine ⟨p, vs, rfl, hq, fun l hl => ?_⟩
  obtain ⟨hf, ha⟩ := rc1.new_out hl
  exact o1.v (Nx.alloc hl) (rc1.alloc hl) l vs (lt1.dom l hl) upd_same hf ha r
theorem rps_rng {K : PySem.W.Frag} {α F} (lo hi : Int) : Rps K T α F (Mi.rng lo hi) (rgV lo hi) := by
  unfold Mi.rng rgV
  have e1 : (List.range (hi - lo).toNat).map (fun (k : Nat) => Mi.D.int (lo + (k : Int))) = ((List.range (hi - lo).toNat).map fun (k : Nat) => lo + (k : Int)).map Mi.D.int := by rw [List.map_map] <;> rfl
  have e2 : (List.range (hi - lo).toNat).map (fun (k : Nat) => V.int (lo + (k : Int))) = ((List.range (hi - lo).toNat).map fun (k : Nat) => lo + (k : Int)).map V.int := by rw [List.map_map] <;> rfl
  rw [e1, e2]
  exact Rps.of_ints _
theorem br_listRange {p p2 pos2 : Pos} (hc : X.calm = true) (hg : Gl X "list") (hm : X.mg "list" = none) (hg2 : Gl X "range") (hm2 : X.mg "range" = none) (ha : PE X a (MV X.K T W ea))
    (na : starEach [.Call (.Name "range" p2) [a] [] pos2] X.env = (false, eval (.Call (.Name "range" p2) [a] [] pos2) X.env) :: starEach [] X.env := by rfl) (na2 : starEach [a] X.env = (false, eval a X.env) :: starEach [] X.env := by rfl) :
    PE X (.Call (.Name "list" p) [.Call (.Name "range" p2) [a] [] pos2] [] pos) (ML X.K T W (Mi.lRange ea)) := by
  refine PE.imp (pe_listRg hc hg hm (prg_1 hg2 hm2 ha na2) na) fun σ H Q h => ?_
  obtain ⟨α, F, env, cs, rc, ev, h⟩ := h
  refine ⟨α, F, env, cs, rc, ev, h.bnd.mono fun α1 F1 cs1 H1 x lt1 rc1 o1 v r1 => ?_⟩
  obtain ⟨xs, e, _⟩ := o1.out rc1
  rw [e] at o1
  unfold Mi.rngOf at e
  split at e
  · rename_i n
    by_cases hn : 0 ≤ n ∧ n ≤ 16777216
    · rw [if_pos hn] at e
      cases e
      refine ⟨n, r1, RgOk.of_le (by omega) hn.2 (by omega) hn.1, fun l hl => ?_⟩
      obtain ⟨hf, ha⟩ := rc1.new_out hl
      exact o1.v (Nx.alloc hl) (rc1.alloc hl) l _ (lt1.dom l hl) upd_same hf ha (rps_rng 0 n)
    · rw [if_neg hn] at e
      cases e
  · cases e
end
end Br
end
section
set_option Elab.async false
set_option linter.all false
set_option maxRecDepth 100000
set_option maxHeartbeats 4000000
namespace Br
open PySem PySem.Spec PyProof.Rows L2

section
variable {X : Cx} {T : Tab} {W : WX} {a b c o : Expr} {ea eb ec : Mi.E} {l : Mi.EL} {es rest : List Expr} {pos apos cpos : Pos}
def OpM (K : PySem.W.Frag) (T : Tab) (r : V → List V → Hp → VK → Prop) (op : Mi.Cs → Mi.D → List Mi.D → Option (Mi.D × Mi.Cs)) : Prop := ∀ α F cs H x ys d cs' v vs, RC K T α F cs H → Rp K T α F x v → Rps K T α F ys vs → op cs x ys = some (d, cs') →
  ∀ Q : VK, (∀ α' F' H' u, Nx α F H α' F' H' → RC K T α' F' cs' H' → Rp K T α' F' d u → Q u H') → r v vs H Q
def OkM (K : PySem.W.Frag) (T : Tab) (Ty : String) (ok : Mi.Cs → Mi.D → Bool) : Prop := ∀ α F cs H x v, RC K T α F cs H → Rp K T α F x v → ok cs x = true → tyV K Ty v H
theorem mv_bm {K : PySem.W.Frag} {r : V → List V → Hp → VK → Prop} {Ty : String} {ok : Mi.Cs → Mi.D → Bool} {op : Mi.Cs → Mi.D → List Mi.D → Option (Mi.D × Mi.Cs)} (hk : OkM K T Ty ok) (hs : OpM K T r op) (σ : L2.St) (H : Hp) (Q : VK) (h : MV K T W (Mi.m1 ok op ea l) σ H Q) :
    tBM K Ty r (MV K T W ea) (MA K T W l) σ H Q := by
  obtain ⟨α, F, env, cs, rc, ev, h⟩ := h
  refine ⟨α, F, env, cs, rc, ev, h.bnd.mono fun α1 F1 cs1 H1 x lt1 rc1 o1 v r1 => ?_⟩
  by_cases hok : ok cs1 x = true
  · rw [if_pos hok] at o1
    refine ⟨hk _ _ _ _ _ _ rc1 r1 hok, α1, F1, env, cs1, rc1, ev.mono lt1.toLt, o1.bnd.mono fun α2 F2 cs2 H2 ys lt2 rc2 o2 vs r2 => ?_⟩
    cases e : op cs2 x ys with
    | none => rw [e] at o2; exact o2.elim
    | some p =>
      obtain ⟨d, cs3⟩ := p
      rw [e] at o2
      exact hs _ _ _ _ _ _ _ _ _ _ rc2 (Rp.mono lt2.toLt _ _ r1) r2 e Q fun α3 F3 H3 u lt3 rc3 r3 => o2.v lt3 rc3 u r3
  · rw [if_neg hok] at o1
    exact o1.elim
theorem ok_list {K : PySem.W.Frag} : OkM K T "list" Mi.isL := by
  intro α F cs H x v rc rx h
  unfold Mi.isL at h
  obtain ⟨xs, e⟩ := Option.isSome_iff_exists.mp h
  obtain ⟨a, vs, rfl, s, _⟩ := lstOf_of rc rx e
  exact .inl ⟨rfl, vs, s⟩
section
variable {K : PySem.W.Frag}
theorem o_append : OpM K T rAppend Mi.oAppend := by
  intro α F cs H x ys d cs' v vs rc rx rys e Q q
  unfold Mi.oAppend at e
  split at e
  · rename_i k xs y hc
    obtain ⟨w, ws, rfl, r1, r2⟩ := rys
    have ews : ws = [] := r2
    subst ews
    obtain ⟨a, zs, rfl, ea, hH, r⟩ := cellL_of rc rx hc
    by_cases hl : xs.length < Mi.SIZE
    · rw [if_pos hl] at e
      cases e
      refine ⟨a, zs, w, rfl, rfl, hH, by rw [r.length, ← size_eq]; exact hl, ?_⟩
      obtain ⟨rc2, nx2⟩ := rc.write (c := .lst (xs ++ [y])) (o := .lst (zs ++ [w])) ea (fun _ _ z => by rw [hH] at z; cases z) ⟨_, upd_same, r.append (Rps.one r1)⟩
      exact q _ _ _ _ nx2 rc2 rfl
    · rw [if_neg hl] at e
      cases e
  · cases e
theorem o_extend : OpM K T rExtend Mi.oExtend := by
  intro α F cs H x ys d cs' v vs rc rx rys e Q q
  unfold Mi.oExtend at e
  split at e
  · rename_i k xs y hc
    obtain ⟨w, ws, rfl, r1, r2⟩ := rys
    have ews : ws = [] := r2
    subst ews
    obtain ⟨a, zs, rfl, ea, hH, r⟩ := cellL_of rc rx hc
    split at e
    · rename_i us hu
      obtain ⟨b, bs, rfl, hb, rb⟩ := ownOf_of rc r1 hu
      by_cases hl : xs.length + us.length ≤ Mi.SIZE
      · rw [if_pos hl] at e
        cases e
        refine ⟨a, b, zs, bs, rfl, rfl, hH, hb, by rw [r.length, rb.length, ← size_eq]; exact hl, ?_⟩
        obtain ⟨rc2, nx2⟩ := rc.write (c := .lst (xs ++ us)) (o := .lst (zs ++ bs)) ea (fun _ _ z => by rw [hH] at z; cases z) ⟨_, upd_same, r.append rb⟩
        exact q _ _ _ _ nx2 rc2 rfl
      · rw [if_neg hl] at e
        cases e
    · cases e
  · cases e
theorem Rps.dropLast {α F} {ds : List Mi.D} {vs : List V} (r : Rps K T α F ds vs) : Rps K T α F ds.dropLast vs.dropLast := by
  rw [List.dropLast_eq_take, List.dropLast_eq_take, r.length]
  exact r.take _
theorem o_pop : OpM K T rPop Mi.oPop := by
  intro α F cs H x ys d cs' v vs rc rx rys e Q q
  unfold Mi.oPop at e
  split at e
  · rename_i k xs hc
    have evs : vs = [] := rys
    subst evs
    obtain ⟨a, zs, rfl, ea, hH, r⟩ := cellL_of rc rx hc
    cases hl : xs.getLast? with
    | none => rw [hl] at e; cases e
    | some y =>
      rw [hl] at e
      cases e
      rw [List.getLast?_eq_getElem?] at hl
      obtain ⟨w, hw, rw_⟩ := r.get hl
      refine ⟨a, zs, w, rfl, rfl, hH, by rw [r.length]; exact hw, ?_⟩
      obtain ⟨rc2, nx2⟩ := rc.write (c := .lst xs.dropLast) (o := .lst zs.dropLast) ea (fun _ _ z => by rw [hH] at z; cases z) ⟨_, upd_same, r.dropLast⟩
      exact q _ _ _ _ nx2 rc2 rw_
  · cases e
theorem Rps.eraseIdx {α F} {ds : List Mi.D} {vs : List V} (i : Nat) (r : Rps K T α F ds vs) : Rps K T α F (ds.eraseIdx i) (vs.eraseIdx i) := by
  rw [List.eraseIdx_eq_take_drop_succ, List.eraseIdx_eq_take_drop_succ]
  exact (r.take _).append (r.drop _)
theorem o_popAt : OpM K T rPopAt Mi.oPopAt := by
  intro α F cs H x ys d cs' v vs rc rx rys e Q q
  unfold Mi.oPopAt at e
  split at e
  · rename_i k xs i hc
    obtain ⟨w, ws, rfl, r1, r2⟩ := rys
    have ews : ws = [] := r2
    subst ews
    have ew : w = .int i := r1
    subst ew
    obtain ⟨a, zs, rfl, ea, hH, r⟩ := cellL_of rc rx hc
    by_cases hi : 0 ≤ i ∧ i < 16777216
    · rw [if_pos hi] at e
      cases hl : xs[i.toNat]? with
      | none => rw [hl] at e; cases e
      | some y =>
        rw [hl] at e
        cases e
        obtain ⟨w, hw, rw_⟩ := r.get hl
        have hlt := (List.getElem?_eq_some_iff.mp hw).1
        refine ⟨a, zs, i, i.toNat, w, rfl, rfl, hH, by omega, by omega, ?_, hw, ?_⟩
        · exact seqIndex_of hi.1 (by omega)
        obtain ⟨rc2, nx2⟩ := rc.write (c := .lst (xs.eraseIdx i.toNat)) (o := .lst (zs.eraseIdx i.toNat)) ea (fun _ _ z => by rw [hH] at z; cases z) ⟨_, upd_same, r.eraseIdx _⟩
        exact q _ _ _ _ nx2 rc2 rw_
    · rw [if_neg hi] at e
      cases e
  · cases e
theorem o_insert : OpM K T (fun x vs H Q => ∃ (l : Addr) (xs : List V) (i : Int) (y : V), x = .ref l ∧ vs = [.int i, y] ∧ H l = some (.lst xs) ∧ xs.length < sizeLine ∧ 0 ≤ i ∧ i < 2 ^ 63 ∧ Q .non (upd H l (.lst (xs.take i.toNat ++ [y] ++ xs.drop i.toNat)))) Mi.oInsert := by
  intro α F cs H x ys d cs' v vs rc rx rys e Q q
  unfold Mi.oInsert at e
  split at e
  · rename_i k xs i y hc
    obtain ⟨w, ws, rfl, r1, w2, ws2, rfl, r2, r3⟩ := rys
    have ews : ws2 = [] := r3
    subst ews
    have ew : w = .int i := r1
    subst ew
    obtain ⟨a, zs, rfl, ea, hH, r⟩ := cellL_of rc rx hc
    by_cases hi : 0 ≤ i ∧ i.toNat ≤ xs.length ∧ xs.length < Mi.SIZE
    · rw [if_pos hi] at e
      cases e
      have hl := r.length
      have hz : xs.length < sizeLine := by rw [← size_eq]; exact hi.2.2
      refine ⟨a, zs, i, w2, rfl, rfl, hH, by omega, hi.1, by rw [sizeLine_eq] at hz; omega, ?_⟩
      have rr : Rps K T α F (xs.take i.toNat ++ y :: xs.drop i.toNat) (zs.take i.toNat ++ [w2] ++ zs.drop i.toNat) := by
        have := ((r.take i.toNat).append (Rps.one r2)).append (r.drop i.toNat)
        rw [List.append_assoc] at this
        exact this
      obtain ⟨rc2, nx2⟩ := rc.write (c := .lst (xs.take i.toNat ++ y :: xs.drop i.toNat)) (o := .lst (zs.take i.toNat ++ [w2] ++ zs.drop i.toNat)) ea (fun _ _ z => by rw [hH] at z; cases z) ⟨_, upd_same, rr⟩
      exact q _ _ _ _ nx2 rc2 rfl
    · rw [if_neg hi] at e
      cases e
  · cases e
end
theorem br_m {name : Str} {Ty id : String} {r : V → List V → Hp → VK → Prop} {ok : Mi.Cs → Mi.D → Bool} {op : Mi.Cs → Mi.D → List Mi.D → Option (Mi.D × Mi.Cs)} {e : Expr} (pa : PlainAttrs Ty) (slot : Slot Ty name id) (hty : typeOf (.builtin id) = pure (.type "method_descriptor")) (hm : MtR X id r)
    (hk : OkM X.K T Ty ok) (hs : OpM X.K T r op) (ho : PE X o (MV X.K T W ea)) (ha : PA X (e :: es) (MA X.K T W l))
    (hbase : attributeBase o name X.env (eval o X.env) = eval o X.env := by rfl) (hline : (apos.endLine == cpos.line) = true := by rfl)
    (hfew : ((backTo cpos (starEach (e :: es) X.env)).all (fun x => !x.1) && (backToKw cpos (keywordEach [] X.env)).all (fun x => x.1.isSome)
      && decide ((e :: es).length + ([] : List Keyword).length + (if ([] : List Keyword).isEmpty then 0 else 1) < 30)) = true := by rfl)
    (he : starEach (e :: es) X.env = (false, eval e X.env) :: starEach es X.env := by rfl) (hpl : (backTo cpos (starEach es X.env)).any (·.1) = false := by rfl) :
    PE X (.Call (.Attribute o name apos) (e :: es) [] cpos) (MV X.K T W (Mi.m1 ok op ea l)) := PE.imp (pe_bm pa slot hty hm ho ha hbase hfew hline he hpl) (mv_bm hk hs)
end
end Br
end
section
set_option Elab.async false
set_option linter.all false
set_option maxRecDepth 100000
set_option maxHeartbeats 4000000
namespace Br
open PySem PySem.Spec PyProof.Rows L2

section
variable {X : Cx} {T : Tab} {W : WX} {a b c o : Expr} {ea eb ec : Mi.E} {l : Mi.EL} {es rest : List Expr} {pos apos cpos : Pos}
theorem mt_tB {K : PySem.W.Frag} (σ : L2.St) (H : Hp) (Q : Bool → Hp → Prop) (h : MT K T W ea σ H Q) : tB (MV K T W ea) σ H Q := by
  obtain ⟨α, F, env, cs, rc, ev, h⟩ := h
  refine ⟨α, F, env, cs, rc, ev, h.mono fun α1 F1 cs1 H1 d _ _ q v r => ?_⟩
  obtain ⟨k, rfl, q⟩ := q
  exact ⟨k, r, q⟩
theorem bt_val {e : Expr} (h : PE X e (MV X.K T W ea)) (he : ∀ whole, isTrue e X.env whole = (do let v ← whole; standAt e.pos; holding [v] (truthy v)) := by intro _; rfl) : PT X e (MT X.K T W ea) := PT.imp (pt_val h he) mt_tB
theorem mt_and {K : PySem.W.Frag} (σ : L2.St) (H : Hp) (Q : Bool → Hp → Prop) (h : MT K T W (Mi.eAnd ea eb) σ H Q) : tAnd (MT K T W ea) (MT K T W eb) σ H Q := by
  obtain ⟨α, F, env, cs, rc, ev, h⟩ := h
  refine ⟨α, F, env, cs, rc, ev, h.bnd.mono fun α1 F1 cs1 H1 d lt1 rc1 o1 => ?_⟩
  cases d <;> try exact o1.elim
  rename_i k
  refine ⟨k, rfl, ?_⟩
  cases k with
  | true =>
    show MT K T W eb σ H1 Q
    exact ⟨α1, F1, env, cs1, rc1, ev.mono lt1.toLt, o1⟩
  | false =>
    obtain ⟨k', e, q⟩ := o1.v (Nx.refl _ _ _) rc1
    cases e
    exact q
theorem mt_or {K : PySem.W.Frag} (σ : L2.St) (H : Hp) (Q : Bool → Hp → Prop) (h : MT K T W (Mi.eOr ea eb) σ H Q) : tOr (MT K T W ea) (MT K T W eb) σ H Q := by
  obtain ⟨α, F, env, cs, rc, ev, h⟩ := h
  refine ⟨α, F, env, cs, rc, ev, h.bnd.mono fun α1 F1 cs1 H1 d lt1 rc1 o1 => ?_⟩
  cases d <;> try exact o1.elim
  rename_i k
  refine ⟨k, rfl, ?_⟩
  cases k with
  | false =>
    show MT K T W eb σ H1 Q
    exact ⟨α1, F1, env, cs1, rc1, ev.mono lt1.toLt, o1⟩
  | true =>
    obtain ⟨k', e, q⟩ := o1.v (Nx.refl _ _ _) rc1
    cases e
    exact q
theorem bw_1 {op} (ha : PT X a (MT X.K T W ea)) : PW X (.BoolOp op [a] pos) (MT X.K T W ea) := by
  cases op
  · exact pw_and1 ha
  · exact pw_or1 ha
theorem bw_and (ha : PT X a (MT X.K T W ea)) (hb : PW X (.BoolOp .And (b :: rest) pos) (MT X.K T W eb)) : PW X (.BoolOp .And (a :: b :: rest) pos) (MT X.K T W (Mi.eAnd ea eb)) := PW.imp (pw_and ha hb) mt_and
theorem bw_or (ha : PT X a (MT X.K T W ea)) (hb : PW X (.BoolOp .Or (b :: rest) pos) (MT X.K T W eb)) : PW X (.BoolOp .Or (a :: b :: rest) pos) (MT X.K T W (Mi.eOr ea eb)) := PW.imp (pw_or ha hb) mt_or
theorem bt_not (ha : PT X a (MT X.K T W ea)) : PT X (.UnaryOp .Not a pos) (MT X.K T W (Mi.e1 Mi.oNot ea)) := PT.imp (pt_not ha) fun σ H Q h => by
  obtain ⟨α, F, env, cs, rc, ev, h⟩ := h
  refine ⟨α, F, env, cs, rc, ev, h.bnd.mono fun α1 F1 cs1 H1 d lt1 rc1 o1 => ?_⟩
  obtain ⟨z, e, k', e', q⟩ := o1.out rc1
  subst e'
  cases d <;> simp only [Mi.oNot, reduceCtorEq, Option.some.injEq, Mi.D.bl.injEq] at e
  rename_i k
  refine ⟨k, rfl, ?_⟩
  show Q (!k) H1
  rw [e]
  exact q
theorem mv_and {K : PySem.W.Frag} (σ : L2.St) (H : Hp) (Q : VK) (h : MV K T W (Mi.eAnd ea eb) σ H Q) : tAndV (MV K T W ea) (MV K T W eb) σ H Q := by
  obtain ⟨α, F, env, cs, rc, ev, h⟩ := h
  refine ⟨α, F, env, cs, rc, ev, h.bnd.mono fun α1 F1 cs1 H1 d lt1 rc1 o1 v r1 => ?_⟩
  cases d <;> try exact o1.elim
  rename_i k
  refine ⟨k, r1, ?_⟩
  cases k with
  | true =>
    show MV K T W eb σ H1 Q
    exact ⟨α1, F1, env, cs1, rc1, ev.mono lt1.toLt, o1⟩
  | false => exact o1.v (Nx.refl _ _ _) rc1 _ rfl
theorem mv_or {K : PySem.W.Frag} (σ : L2.St) (H : Hp) (Q : VK) (h : MV K T W (Mi.eOr ea eb) σ H Q) : tOrV (MV K T W ea) (MV K T W eb) σ H Q := by
  obtain ⟨α, F, env, cs, rc, ev, h⟩ := h
  refine ⟨α, F, env, cs, rc, ev, h.bnd.mono fun α1 F1 cs1 H1 d lt1 rc1 o1 v r1 => ?_⟩
  cases d <;> try exact o1.elim
  rename_i k
  refine ⟨k, r1, ?_⟩
  cases k with
  | false =>
    show MV K T W eb σ H1 Q
    exact ⟨α1, F1, env, cs1, rc1, ev.mono lt1.toLt, o1⟩
  | true => exact o1.v (Nx.refl _ _ _) rc1 _ rfl
theorem br_one {op} (ha : PE X a (MV X.K T W ea)) : PE X (.BoolOp op [a] pos) (MV X.K T W ea) := pe_one ha
theorem br_and (ha : PE X a (MV X.K T W ea)) (hb : PE X (.BoolOp .And (b :: rest) pos) (MV X.K T W eb)) : PE X (.BoolOp .And (a :: b :: rest) pos) (MV X.K T W (Mi.eAnd ea eb)) := PE.imp (pe_and ha hb) mv_and
theorem br_or (ha : PE X a (MV X.K T W ea)) (hb : PE X (.BoolOp .Or (b :: rest) pos) (MV X.K T W eb)) : PE X (.BoolOp .Or (a :: b :: rest) pos) (MV X.K T W (Mi.eOr ea eb)) := PE.imp (pe_or ha hb) mv_or
theorem br_not (ha : PE X a (MV X.K T W ea)) : PE X (.UnaryOp .Not a pos) (MV X.K T W (Mi.e1 Mi.oNot ea)) := PE.imp (pe_not ha) fun σ H Q h => by
  obtain ⟨α, F, env, cs, rc, ev, h⟩ := h
  refine ⟨α, F, env, cs, rc, ev, h.bnd.mono fun α1 F1 cs1 H1 d lt1 rc1 o1 v r1 => ?_⟩
  obtain ⟨z, e, q⟩ := o1.out rc1
  cases d <;> simp only [Mi.oNot, reduceCtorEq, Option.some.injEq] at e
  rename_i k
  subst e
  exact ⟨k, r1, q _ rfl⟩
theorem br_ifExp (hc : PT X c (MT X.K T W ec)) (ha : PE X a (MV X.K T W ea)) (hb : PE X b (MV X.K T W eb)) : PE X (.IfExp c a b pos) (MV X.K T W (Mi.eIf ec ea eb)) := PE.imp (pe_ifExp hc ha hb) fun σ H Q h => by
  obtain ⟨α, F, env, cs, rc, ev, h⟩ := h
  refine ⟨α, F, env, cs, rc, ev, h.bnd.mono fun α1 F1 cs1 H1 d lt1 rc1 o1 => ?_⟩
  cases d <;> try exact o1.elim
  rename_i k
  refine ⟨k, rfl, ?_⟩
  cases k with
  | true =>
    show MV X.K T W ea σ H1 Q
    exact ⟨α1, F1, env, cs1, rc1, ev.mono lt1.toLt, o1⟩
  | false =>
    show MV X.K T W eb σ H1 Q
    exact ⟨α1, F1, env, cs1, rc1, ev.mono lt1.toLt, o1⟩
theorem mv_chain {K : PySem.W.Frag} {r r' : R2} {f f' : Mi.Cs → Mi.D → Mi.D → Option Mi.D} (hs : Op2 K T r f) (hs' : Op2 K T r' f') (σ : L2.St) (H : Hp) (Q : VK) (h : MV K T W (Mi.eChain f f' ea eb ec) σ H Q) : tChain r r' (MV K T W ea) (MV K T W eb) (MV K T W ec) σ H Q := by
  obtain ⟨α, F, env, cs, rc, ev, h⟩ := h
  refine ⟨α, F, env, cs, rc, ev, h.bnd.mono fun α1 F1 cs1 H1 x lt1 rc1 o1 v r1 => ?_⟩
  refine ⟨α1, F1, env, cs1, rc1, ev.mono lt1.toLt, o1.bnd.mono fun α2 F2 cs2 H2 y lt2 rc2 o2 w r2 => ?_⟩
  split at o2
  · rename_i e
    refine hs α2 F2 cs2 H2 x y _ v w rc2 (Rp.mono lt2.toLt _ _ r1) r2 e _ fun α3 F3 H3 u lt3 rc3 r3 => ?_
    refine ⟨true, r3, ?_⟩
    rw [if_pos rfl]
    refine ⟨α3, F3, env, cs2, rc3, ev.mono ((lt1.trans lt2).trans lt3).toLt, ((o2.later lt3).bnd).mono fun α4 F4 cs4 H4 z lt4 rc4 o4 w4 r4 => ?_⟩
    obtain ⟨z', e', _⟩ := o4.out rc4
    rw [e'] at o4
    exact hs' α4 F4 cs4 H4 y z z' w w4 rc4 (Rp.mono (lt3.trans lt4).toLt _ _ r2) r4 e' Q fun α5 F5 H5 u lt5 rc5 r5 => o4.v lt5 rc5 u r5
  · rename_i e
    refine hs α2 F2 cs2 H2 x y _ v w rc2 (Rp.mono lt2.toLt _ _ r1) r2 e _ fun α3 F3 H3 u lt3 rc3 r3 => ?_
    refine ⟨false, r3, ?_⟩
    rw [if_neg Bool.false_ne_true]
    exact o2.v lt3 rc3 _ rfl
  · exact o2.elim
theorem bt_chain {op op' : CmpOp} {r r' : R2} {f f' : Mi.Cs → Mi.D → Mi.D → Option Mi.D} (ho : OpR X (compareOp op) r) (ho' : OpR X (compareOp op') r') (hs : Op2 X.K T r f) (hs' : Op2 X.K T r' f') (ha : PE X a (MV X.K T W ea)) (hb : PE X b (MV X.K T W eb)) (hc : PE X c (MV X.K T W ec)) (hm : lastMarks [op, op'] [b, c] = false := by with_unfolding_all rfl) :
    PT X (.Compare a [op, op'] [b, c] pos) (MT X.K T W (Mi.eChain f f' ea eb ec)) := PT.imp (pt_chain ho ho' ha hb hc hm) fun σ H Q h => by
  obtain ⟨α, F, env, cs, rc, ev, h⟩ := h
  refine mv_chain hs hs' σ H _ ⟨α, F, env, cs, rc, ev, h.mono fun α1 F1 cs1 H1 d _ _ q v r => ?_⟩
  obtain ⟨k, rfl, q⟩ := q
  exact ⟨k, r, q⟩

section
variable (K : PySem.W.Frag) (T : Tab) (W : WX)
def OutS (α : List Addr) (F H : Hp) (D : Ends) (m : Option Mi.O) : Prop :=
  match m with
  | none => False
  | some (.nx env cs) => ∀ α' F' H' σ', Nx α F H α' F' H' → RC K T α' F' cs H' → Ev K T α' F' env σ' → D.nx σ' H'
  | some (.bk env cs) => ∀ α' F' H' σ', Nx α F H α' F' H' → RC K T α' F' cs H' → Ev K T α' F' env σ' → D.bk σ' H'
  | some (.ct env cs) => ∀ α' F' H' σ', Nx α F H α' F' H' → RC K T α' F' cs H' → Ev K T α' F' env σ' → D.ct σ' H'
  | some (.rt d cs) => ∀ α' F' H' v, Nx α F H α' F' H' → RC K T α' F' cs H' → Rp K T α' F' d v → D.rt v H'
  | some (.x c env cs) => ∀ α' F' H' σ' C nm, Nx α F H α' F' H' → RC K T α' F' cs H' → Ev K T α' F' env σ' → T c = some (C, nm) → W (.ref C) none σ' H'
def MS (s : Mi.S) : TS := fun D σ H => ∃ α F env cs, RC K T α F cs H ∧ Ev K T α F env σ ∧ OutS K T W α F H D (s env cs)
end
section
variable {K : PySem.W.Frag} {α α' : List Addr} {F F' H H' : Hp} {cs : Mi.Cs} {env : Mi.Env} {σ : L2.St} {D D' : Ends}
theorem OutS.later {m : Option Mi.O} (lt : Nx α F H α' F' H') (h : OutS K T W α F H D m) : OutS K T W α' F' H' D m := by
  match m, h with
  | some (.nx env cs), h => exact fun _ _ _ _ lt' rc => h _ _ _ _ (lt.trans lt') rc
  | some (.bk env cs), h => exact fun _ _ _ _ lt' rc => h _ _ _ _ (lt.trans lt') rc
  | some (.ct env cs), h => exact fun _ _ _ _ lt' rc => h _ _ _ _ (lt.trans lt') rc
  | some (.rt d cs), h => exact fun _ _ _ _ lt' rc => h _ _ _ _ (lt.trans lt') rc
  | some (.x c env cs), h => exact fun _ _ _ _ _ _ lt' rc => h _ _ _ _ _ _ (lt.trans lt') rc
theorem OutS.thn {A : Type} {m : Option (Mi.R A)} {f : A → Mi.Cs → Option Mi.O} (ev : Ev K T α F env σ) (h : OutS K T W α F H D (Mi.thn env m f)) : Out K T W σ α F H m fun α1 F1 cs1 H1 a => OutS K T W α1 F1 H1 D (f a cs1) := by
  match m, h with
  | some (.v a cs), h => exact fun α' F' H' lt rc => OutS.later lt h
  | some (.x c cs), h => exact fun α' F' H' C nm lt rc t => h α' F' H' σ C nm lt rc (ev.mono lt.toLt) t
  | none, h => exact h.elim
theorem OutS.nx (h : OutS K T W α F H D (some (.nx env cs))) (rc : RC K T α F cs H) (ev : Ev K T α F env σ) : D.nx σ H := h α F H σ (Nx.refl _ _ _) rc ev
end
theorem bs_seq {K : PySem.W.Frag} {s t : Mi.S} (D : Ends) (σ : L2.St) (H : Hp) (h : MS K T W (Mi.sSeq s t) D σ H) : tSeq (MS K T W s) (MS K T W t) D σ H := by
  obtain ⟨α, F, env, cs, rc, ev, h⟩ := h
  refine ⟨α, F, env, cs, rc, ev, ?_⟩
  unfold Mi.sSeq at h
  cases e : s env cs with
  | none => rw [e] at h; exact h.elim
  | some o =>
    rw [e] at h
    cases o with
    | nx env' cs' => exact fun α' F' H' σ' lt rc' ev' => ⟨α', F', env', cs', rc', ev', OutS.later lt h⟩
    | rt d cs' => exact h
    | bk env' cs' => exact h
    | ct env' cs' => exact h
    | x c env' cs' => exact h
variable {st : Stmt} {sts sts2 : List Stmt} {s t : Mi.S}
theorem bss_nil : PSs X [] (MS X.K T W Mi.sNext) := PSs.imp pss_nil fun D σ H h => by
  obtain ⟨α, F, env, cs, rc, ev, h⟩ := h
  exact OutS.nx h rc ev
theorem bss_one (h : PS X st (MS X.K T W s)) : PSs X [st] (MS X.K T W s) := pss_one h
theorem bss_cons (h1 : PS X st (MS X.K T W s)) (h2 : PSs X sts (MS X.K T W t)) : PSs X (st :: sts) (MS X.K T W (Mi.sSeq s t)) := PSs.imp (pss_cons h1 h2) bs_seq
theorem ms_set {K : PySem.W.Frag} {i : Nat} (D : Ends) (σ : L2.St) (H : Hp) (h : MS K T W (Mi.sSet i ea) D σ H) : tAsg (MV K T W ea) (gName i) D σ H := by
  obtain ⟨α, F, env, cs, rc, ev, h⟩ := h
  exact ⟨α, F, env, cs, rc, ev, (OutS.thn ev h).mono fun α1 F1 cs1 H1 d lt1 rc1 o1 v r1 => OutS.nx o1 rc1 ((ev.mono lt1.toLt).set r1 i)⟩
theorem bs_set {i : Nat} {x : Str} {e : Expr} {pos' : Pos} (hN : X.N.Nodup) (hi : X.N[i]? = some x) (hx : Loc X.env.scope x) (he : PE X e (MV X.K T W ea)) (hs : swapsWith e (some (.Name x pos')) pos.line X.env = pure false := by rfl)
    (hf : X.fn x = true ∨ X.env.scope.names.lookup x = some .local := by first | exact .inl rfl | exact .inr rfl | assumption) : PS X (.Assign [.Name x pos'] e pos) (MS X.K T W (Mi.sSet i ea)) := PS.imp (ps_set hN hi hx he hs hf) ms_set
theorem bs_expr {e : Expr} (he : PE X e (MV X.K T W ea)) (hs : swapsWith e none pos.line X.env = pure false := by rfl) : PS X (.Expr e pos) (MS X.K T W (Mi.sExpr ea)) := PS.imp (ps_expr he hs) fun D σ H h => by
  obtain ⟨α, F, env, cs, rc, ev, h⟩ := h
  exact ⟨α, F, env, cs, rc, ev, (OutS.thn ev h).mono fun α1 F1 cs1 H1 d lt1 rc1 o1 v r1 => OutS.nx o1 rc1 (ev.mono lt1.toLt)⟩
theorem bs_ret {e : Expr} (he : PE X e (MV X.K T W ea)) : PS X (.Return (some e) pos) (MS X.K T W (Mi.sRet ea)) := PS.imp (ps_ret he) fun D σ H h => by
  obtain ⟨α, F, env, cs, rc, ev, h⟩ := h
  exact ⟨α, F, env, cs, rc, ev, (OutS.thn ev h).mono fun α1 F1 cs1 H1 d lt1 rc1 o1 v r1 => o1 α1 F1 H1 v (Nx.refl _ _ _) rc1 r1⟩
theorem bs_pass : PS X (.Pass pos) (MS X.K T W Mi.sNext) := PS.imp ps_pass fun D σ H h => by
  obtain ⟨α, F, env, cs, rc, ev, h⟩ := h
  exact OutS.nx h rc ev
theorem bs_cont : PS X (.Continue pos) (MS X.K T W Mi.sCont) := PS.imp ps_continue fun D σ H h => by
  obtain ⟨α, F, env, cs, rc, ev, h⟩ := h
  exact h α F H σ (Nx.refl _ _ _) rc ev
theorem bs_break : PS X (.Break pos) (MS X.K T W Mi.sBreak) := PS.imp ps_break fun D σ H h => by
  obtain ⟨α, F, env, cs, rc, ev, h⟩ := h
  exact h α F H σ (Nx.refl _ _ _) rc ev
theorem bs_if (hc : PT X c (MT X.K T W ec)) (ha : PSs X sts (MS X.K T W s)) (hb : PSs X sts2 (MS X.K T W t)) : PS X (.If c sts sts2 pos) (MS X.K T W (Mi.sIf ec s t)) := PS.imp (ps_if hc ha hb) fun D σ H h => by
  obtain ⟨α, F, env, cs, rc, ev, h⟩ := h
  refine ⟨α, F, env, cs, rc, ev, (OutS.thn ev h).mono fun α1 F1 cs1 H1 d lt1 rc1 o1 => ?_⟩
  cases d <;> try exact o1.elim
  rename_i k
  refine ⟨k, rfl, ?_⟩
  cases k with
  | true =>
    show MS X.K T W s D σ H1
    exact ⟨α1, F1, env, cs1, rc1, ev.mono lt1.toLt, o1⟩
  | false =>
    show MS X.K T W t D σ H1
    exact ⟨α1, F1, env, cs1, rc1, ev.mono lt1.toLt, o1⟩
theorem bs_aug {i : Nat} {x : Str} {e : Expr} {op : Operator} {g : Int → Int → Int} {f : Mi.Cs → Mi.D → Mi.D → Option Mi.D} {pos' : Pos} (hN : X.N.Nodup) (hi : X.N[i]? = some x) (hx : Loc X.env.scope x) (he : PE X e (MV X.K T W ea)) (ho : PIp X op (ipI g))
    (hg : ∀ cs x y z, f cs x y = some z → ∃ i j, x = .int i ∧ y = .int j ∧ z = .int (g i j))
    (hf : X.fn x = true ∨ X.env.scope.names.lookup x = some .local := by first | exact .inl rfl | exact .inr rfl | assumption) : PS X (.AugAssign (.Name x pos') op e pos) (MS X.K T W (Mi.sAug i f ea)) := PS.imp (ps_aug hN hi hx he ho hf) fun D σ H h => by
  obtain ⟨α, F, env, cs, rc, ev, h⟩ := h
  unfold Mi.sAug at h
  split at h
  · rename_i d e
    obtain ⟨v, h1, h2⟩ := ev.at_ i d e
    refine ⟨v, h1, α, F, env, cs, rc, ev, (OutS.thn ev h).mono fun α1 F1 cs1 H1 y lt1 rc1 o1 w r1 => ?_⟩
    cases q : f cs1 d y with
    | none => rw [q] at o1; exact o1.elim
    | some z =>
      rw [q] at o1
      obtain ⟨m, n, rfl, rfl, rfl⟩ := hg _ _ _ _ q
      exact ⟨m, n, h2, r1, OutS.nx o1 rc1 ((ev.mono lt1.toLt).set (d := .int (g m n)) (v := .int (g m n)) rfl i)⟩
  · exact h.elim
theorem g_add (cs : Mi.Cs) (x y z : Mi.D) (h : Mi.oAdd cs x y = some z) : ∃ i j, x = .int i ∧ y = .int j ∧ z = .int (i + j) := by
  unfold Mi.oAdd at h
  split at h
  · cases h
    exact ⟨_, _, rfl, rfl, rfl⟩
  · cases h

theorem ms_put {K : PySem.W.Frag} {tset : TSet} {op : Mi.Cs → Mi.D → Mi.D → Mi.D → Option Mi.Cs} (hs : ∀ α F cs H x y d cs' v w u, RC K T α F cs H → Rp K T α F x v → Rp K T α F y w → Rp K T α F d u → op cs x y d = some cs' →
      ∀ Q : Hp → Prop, (∀ α' F' H', Nx α F H α' F' H' → RC K T α' F' cs' H' → Q H') → tset v w u H Q)
    (D : Ends) (σ : L2.St) (H : Hp) (h : MS K T W (Mi.sPut op ea eb ec) D σ H) : tAsg (MV K T W ec) (gSub (MV K T W ea) (MV K T W eb) tset) D σ H := by
  obtain ⟨α, F, env, cs, rc, ev, h⟩ := h
  refine ⟨α, F, env, cs, rc, ev, (OutS.thn ev h).mono fun α1 F1 cs1 H1 d lt1 rc1 o1 u r1 => ?_⟩
  have ev1 := ev.mono lt1.toLt
  refine ⟨α1, F1, env, cs1, rc1, ev1, (OutS.thn ev1 o1).mono fun α2 F2 cs2 H2 x lt2 rc2 o2 v r2 => ?_⟩
  have ev2 := ev1.mono lt2.toLt
  refine ⟨α2, F2, env, cs2, rc2, ev2, (OutS.thn ev2 o2).mono fun α3 F3 cs3 H3 y lt3 rc3 o3 w r3 => ?_⟩
  cases e : op cs3 x y d with
  | none => rw [e] at o3; exact o3.elim
  | some cs4 =>
    rw [e] at o3
    refine hs α3 F3 cs3 H3 x y d cs4 v w u rc3 (Rp.mono lt3.toLt _ _ r2) r3 (Rp.mono (lt2.trans lt3).toLt _ _ r1) e _ fun α4 F4 H4 lt4 rc4 => ?_
    exact o3 α4 F4 H4 σ lt4 rc4 (ev2.mono (lt3.trans lt4).toLt)
theorem put_list {K : PySem.W.Frag} : ∀ α F cs H x y d cs' v w u, RC K T α F cs H → Rp K T α F x v → Rp K T α F y w → Rp K T α F d u → Mi.putL cs x y d = some cs' →
      ∀ Q : Hp → Prop, (∀ α' F' H', Nx α F H α' F' H' → RC K T α' F' cs' H' → Q H') → rSetL v w u H Q := by
  intro α F cs H x y d cs' v w u rc rx ry rd e Q q
  unfold Mi.putL at e
  split at e
  · rename_i k xs z hc
    have ew : w = .int z := ry
    subst ew
    obtain ⟨a, zs, rfl, ea, hH, r⟩ := cellL_of rc rx hc
    rw [r.ixN] at e
    cases hj : L2.ixN zs.length z with
    | none => rw [hj] at e; cases e
    | some j =>
      rw [hj] at e
      cases e
      obtain ⟨rc2, nx2⟩ := rc.write (c := .lst (xs.set j d)) (o := .lst (zs.set j u)) ea (fun _ _ z => by rw [hH] at z; cases z) ⟨_, upd_same, r.set rd j⟩
      exact ⟨a, zs, z, j, rfl, rfl, hH, hj, q _ _ _ nx2 rc2⟩
  · cases e
theorem bs_putL {i e : Expr} {pos' : Pos} (ho : PE X o (MV X.K T W ea)) (hi : PE X i (MV X.K T W eb)) (he : PE X e (MV X.K T W ec)) (hp : ∀ v, assign (.Subscript o i pos') X.env v = (do
      let ov ← holding [v] (eval o X.env)
      let iv ← holding [v, ov] (eval i X.env)
      standAt pos'
      holding [v, ov, iv] (setItem ov iv v)
      release [v, ov, iv] []) := by intro _; rfl) (hs : swapsWithSole [.Subscript o i pos'] e pos.line X.env = pure false := by rfl) (hw : swappedStores [.Subscript o i pos'] e X.env = pure none := by rfl) :
    PS X (.Assign [.Subscript o i pos'] e pos) (MS X.K T W (Mi.sPut Mi.putL ea eb ec)) := PS.imp (ps_asg he (pg_sub ho hi set_list hp) hs hw) (ms_put put_list)
end
end Br
end
section
set_option Elab.async false
set_option linter.all false
set_option maxRecDepth 100000
set_option maxHeartbeats 4000000
namespace Br
open PySem PySem.Spec PyProof.Rows L2

section
variable (K : PySem.W.Frag) (T : Tab)
def JOk (J : L2.It) (α : List Addr) (F H : Hp) (items : List Mi.D) (chk : Mi.Cs → Bool) : Prop := ∀ (i : Nat) α' F' cs H', Nx α F H α' F' H' → RC K T α' F' cs H' → chk cs = true →
  (∀ d, items[i]? = some d → J.go i H' ∧ ∀ x H'', J.yld i H' x H'' → ∃ F'', Nx α' F' H' α' F'' H'' ∧ RC K T α' F'' cs H'' ∧ Rp K T α' F'' d x) ∧ (items[i]? = none → J.stop i H')
def MI (W : WX) (it : Mi.I) : TI := fun σ H R => ∃ α F env cs, RC K T α F cs H ∧ Ev K T α F env σ ∧ Out K T W σ α F H (it env cs) fun α' F' _ H' w => ∀ J, JOk K T J α' F' H' w.items w.chk → R J H'
end
theorem PI.imp {X : Cx} {tg e : Expr} {t t' : TI} (h : PI X tg e t) (i : ∀ σ H Q, t' σ H Q → t σ H Q) : PI X tg e t' := ⟨fun pins s σ H Q I q => h.run pins s σ H Q I (i σ H Q q)⟩
theorem PG.imp {X : Cx} {e : Expr} {t t' : TG} (h : PG X e t) (i : ∀ v σ H Q, t' v σ H Q → t v σ H Q) : PG X e t' := ⟨fun pins s σ H v u Q I r q => h.run pins s σ H v u Q I r (i v σ H Q q)⟩
section
variable {K : PySem.W.Frag} {T : Tab} {W : WX} {α α' : List Addr} {F F' H H' : Hp} {cs cs' : Mi.Cs} {env : Mi.Env} {σ : L2.St}
theorem beqs_of {a b : List Mi.D} (h : Mi.D.beqs a b = true) : a = b := Mi.D.beqs_eq a b h
theorem eqCell_of {a b : Option Mi.Cell} (h : Mi.eqCell a b = true) : a = b := by
  unfold Mi.eqCell at h
  split at h
  · rw [beqs_of h]
  · rw [Bool.and_eq_true] at h
    rw [beqs_of h.1, beqs_of h.2]
  · rw [Bool.and_eq_true] at h
    rw [of_decide_eq_true h.1, beqs_of h.2]
  · rw [Bool.and_eq_true] at h
    rw [beqs_of h.1, beqs_of h.2]
  · rw [Bool.and_eq_true] at h
    rw [beqs_of h.1, beqs_of h.2]
  · rfl
  · cases h
theorem lstOf_stays {x : Mi.D} {xs : List Mi.D} (h : Mi.lstOf cs x = some xs) (hc : Mi.stays cs x cs' = true) : Mi.lstOf cs' x = some xs := by
  cases x <;> simp only [Mi.lstOf, reduceCtorEq] at h ⊢ <;> try exact h
  rename_i k
  rw [eqCell_of (show Mi.eqCell cs'[k]? cs[k]? = true from hc)]
  exact h
theorem j_list {x : Mi.D} {a : Addr} {xs : List Mi.D} (rx : Rp K T α F x (.ref a)) (h : Mi.lstOf cs x = some xs) : JOk K T (Itl K a) α F H xs (Mi.stays cs x) := by
  intro i α' F' cs' H' nx rc hc
  have h' := lstOf_stays h hc
  have rx' := Rp.mono nx.toLt _ _ rx
  obtain ⟨b, vs, e, s, r⟩ := lstOf_of rc rx' h'
  cases e
  refine ⟨fun d hd => ?_, fun hn => ?_⟩
  · obtain ⟨v, hv, rv⟩ := r.get hd
    refine ⟨⟨vs, v, s, hv⟩, fun y H'' hy => ?_⟩
    obtain ⟨rfl, hy⟩ := hy
    have e2 : y = v := Option.some.inj ((hy vs s).symm.trans hv)
    subst e2
    exact ⟨F', Nx.refl _ _ _, rc, rv⟩
  · exact ⟨vs, s, by rw [r.length]; exact List.getElem?_eq_none_iff.mp hn⟩
theorem j_tup {a : Addr} {xs : List Mi.D} {vs : List V} (h : SqT K F a vs) (r : Rps K T α F xs vs) : JOk K T (Itt K a) α F H xs (fun _ => true) := by
  intro i α' F' cs' H' nx rc hc
  have s : SqT K H' a vs := same_sqT rc.same (nx.fl.sqT h)
  have r := r.mono' nx.toLt
  refine ⟨fun d hd => ?_, fun hn => ?_⟩
  · obtain ⟨v, hv, rv⟩ := r.get hd
    refine ⟨⟨vs, v, s, hv⟩, fun y H'' hy => ?_⟩
    obtain ⟨rfl, hy⟩ := hy
    have e2 : y = v := Option.some.inj ((hy vs s).symm.trans hv)
    subst e2
    exact ⟨F', Nx.refl _ _ _, rc, rv⟩
  · exact ⟨vs, s, by rw [r.length]; exact List.getElem?_eq_none_iff.mp hn⟩
theorem rng_get (lo hi : Int) (i : Nat) : (Mi.rng lo hi)[i]? = if i < (hi - lo).toNat then some (.int (lo + (i : Int))) else none := by
  unfold Mi.rng
  rw [List.getElem?_map]
  by_cases h : i < (hi - lo).toNat
  · rw [List.getElem?_range h, if_pos h]
    rfl
  · rw [if_neg h, List.getElem?_eq_none (by rw [List.length_range]; omega)]
    rfl
theorem j_rng (lo hi : Int) : JOk K T (Itr lo (hi - lo).toNat) α F H (Mi.rng lo hi) (fun _ => true) := by
  intro i α' F' cs' H' nx rc hc
  rw [rng_get]
  by_cases h : i < (hi - lo).toNat
  · rw [if_pos h]
    refine ⟨fun d hd => ⟨h, fun y H'' hy => ?_⟩, fun z => nomatch z⟩
    obtain ⟨rfl, rfl⟩ := hy
    cases hd
    exact ⟨F', Nx.refl _ _ _, rc, rfl⟩
  · rw [if_neg h]
    exact ⟨fun d hd => (nomatch hd), fun _ => Nat.le_of_not_lt h⟩
end

section
variable {X : Cx} {T : Tab} {W : WX} {a b c o tg : Expr} {ea eb ec : Mi.E} {l : Mi.EL} {es rest : List Expr} {pos apos cpos p : Pos}
theorem bi_list (ha : PE X a (MV X.K T W ea)) : PI X tg a (MI X.K T W (Mi.iLst ea)) := PI.imp (pi_list ha) fun σ H R h => by
  obtain ⟨α, F, env, cs, rc, ev, h⟩ := h
  refine ⟨α, F, env, cs, rc, ev, h.bnd.mono fun α1 F1 cs1 H1 x lt1 rc1 o1 v r1 => ?_⟩
  cases e : Mi.lstOf cs1 x with
  | none => rw [e] at o1; exact o1.elim
  | some xs =>
    rw [e] at o1
    obtain ⟨q, vs, rfl, s, r⟩ := lstOf_of rc1 r1 e
    exact ⟨q, rfl, ⟨vs, s⟩, o1.v (Nx.refl _ _ _) rc1 _ (j_list r1 e)⟩
theorem bi_tup (ha : PE X a (MV X.K T W ea)) : PI X tg a (MI X.K T W (Mi.iTup ea)) := PI.imp (pi_tup ha) fun σ H R h => by
  obtain ⟨α, F, env, cs, rc, ev, h⟩ := h
  refine ⟨α, F, env, cs, rc, ev, h.bnd.mono fun α1 F1 cs1 H1 x lt1 rc1 o1 v r1 => ?_⟩
  cases x <;> try exact o1.elim
  rename_i xs
  obtain ⟨q, vs, rfl, s, r⟩ := r1
  exact ⟨q, rfl, ⟨vs, same_sqT rc1.same s⟩, o1.v (Nx.refl _ _ _) rc1 _ (j_tup s r)⟩
theorem okR_of {i : Int} (h : Mi.okR i = true) : -(2 ^ 62) ≤ i ∧ i < 2 ^ 62 := by
  unfold Mi.okR at h
  rw [Bool.and_eq_true] at h
  exact ⟨of_decide_eq_true h.1, of_decide_eq_true h.2⟩
theorem bi_range (hg : Gl X "range") (hm : X.mg "range" = none) (ha : PE X a (MV X.K T W ea)) (na : starEach [a] X.env = (false, eval a X.env) :: starEach [] X.env := by rfl) (hs : starEach [a] X.env = [(false, eval a X.env)] := by rfl) :
    PI X tg (.Call (.Name "range" p) [a] [] pos) (MI X.K T W (Mi.iRange ea)) := PI.imp (pi_range1 hg hm (pa_cons ha pa_nil na) hs) fun σ H R h => by
  obtain ⟨α, F, env, cs, rc, ev, h⟩ := h
  refine ⟨α, F, env, cs, rc, ev, h.bnd.mono fun α1 F1 cs1 H1 x lt1 rc1 o1 v r1 => ?_⟩
  cases x <;> try exact o1.elim
  rename_i n
  have ev' : v = .int n := r1
  subst ev'
  by_cases hn : Mi.okR n = true
  · have o2 : Out X.K T W σ α1 F1 H1 (if Mi.okR n = true then some (Mi.R.v (⟨Mi.rng 0 n, fun _ => true⟩ : Mi.It) cs1) else none) (fun α' F' _ H' w => ∀ J, JOk X.K T J α' F' H' w.items w.chk → R J H') := o1
    rw [if_pos hn] at o2
    obtain ⟨h1, h2⟩ := okR_of hn
    refine ⟨n, rfl, h1, h2, o2.v (Nx.refl _ _ _) rc1 _ ?_⟩
    have := j_rng (K := X.K) (T := T) (α := α1) (F := F1) (H := H1) 0 n
    rw [Int.sub_zero] at this
    exact this
  · have o2 : Out X.K T W σ α1 F1 H1 (if Mi.okR n = true then some (Mi.R.v (⟨Mi.rng 0 n, fun _ => true⟩ : Mi.It) cs1) else none) (fun α' F' _ H' w => ∀ J, JOk X.K T J α' F' H' w.items w.chk → R J H') := o1
    rw [if_neg hn] at o2
    exact o2.elim
theorem bi_range2 (hg : Gl X "range") (hm : X.mg "range" = none) (ha : PE X a (MV X.K T W ea)) (hb : PE X b (MV X.K T W eb)) (na : starEach [a, b] X.env = (false, eval a X.env) :: starEach [b] X.env := by rfl) (nb : starEach [b] X.env = (false, eval b X.env) :: starEach [] X.env := by rfl)
    (hs : starEach [a, b] X.env = [(false, eval a X.env), (false, eval b X.env)] := by rfl) (hs2 : starEach [b] X.env = [(false, eval b X.env)] := by rfl) :
    PI X tg (.Call (.Name "range" p) [a, b] [] pos) (MI X.K T W (Mi.iRange2 ea eb)) := PI.imp (pi_range2 hg hm (pa_cons ha (pa_cons hb pa_nil nb) na) hs hs2) fun σ H R h => by
  obtain ⟨α, F, env, cs, rc, ev, h⟩ := h
  refine ⟨α, F, env, cs, rc, ev, h.bnd.mono fun α1 F1 cs1 H1 x lt1 rc1 o1 v r1 => ?_⟩
  refine ⟨α1, F1, env, cs1, rc1, ev.mono lt1.toLt, o1.bnd.mono fun α2 F2 cs2 H2 y lt2 rc2 o2 w r2 => ?_⟩
  cases x <;> cases y <;> try exact o2.elim
  rename_i m n
  have ev' : v = .int m := r1
  have ew' : w = .int n := r2
  subst ev' ew'
  have o3 : Out X.K T W σ α2 F2 H2 (if (Mi.okR m && Mi.okR n) = true then some (Mi.R.v (⟨Mi.rng m n, fun _ => true⟩ : Mi.It) cs2) else none) (fun α' F' _ H' w => ∀ J, JOk X.K T J α' F' H' w.items w.chk → R J H') := o2
  by_cases hn : (Mi.okR m && Mi.okR n) = true
  · rw [if_pos hn] at o3
    rw [Bool.and_eq_true] at hn
    obtain ⟨h1, h2⟩ := okR_of hn.1
    obtain ⟨h3, h4⟩ := okR_of hn.2
    exact ⟨m, n, rfl, ⟨h1, h2, h3, h4⟩, o3.v (Nx.refl _ _ _) rc2 _ (j_rng m n)⟩
  · rw [if_neg hn] at o3
    exact o3.elim

def MG (K : PySem.W.Frag) (T : Tab) (g : Mi.G) : TG := fun v σ H Q => ∃ α F env cs d, RC K T α F cs H ∧ Ev K T α F env σ ∧ Rp K T α F d v ∧ ∃ env', g d env cs = some env' ∧ ∀ σ', Ev K T α F env' σ' → Q σ' H
def MGs (K : PySem.W.Frag) (T : Tab) (gs : List Mi.G) : TGs := fun vs σ H Q => ∃ α F env cs ds, RC K T α F cs H ∧ Ev K T α F env σ ∧ Rps K T α F ds vs ∧ ∃ env', Mi.gAll gs ds env cs = some env' ∧ ∀ σ', Ev K T α F env' σ' → Q σ' H
theorem bg_name {i : Nat} {x : Str} (hN : X.N.Nodup) (hi : X.N[i]? = some x) (hx : Loc X.env.scope x) (hf : X.fn x = true ∨ X.env.scope.names.lookup x = some .local := by first | exact .inl rfl | exact .inr rfl | assumption) : PG X (.Name x pos) (MG X.K T (Mi.gN i)) :=
  PG.imp (pg_name hN hi hx hf) fun v σ H Q h => by
    obtain ⟨α, F, env, cs, d, rc, ev, r, env', e, q⟩ := h
    cases e
    exact q _ (ev.set r i)
theorem PGs.imp {X : Cx} {e : List Expr} {t t' : TGs} (h : PGs X e t) (i : ∀ v σ H Q, t' v σ H Q → t v σ H Q) : PGs X e t' := ⟨fun pins s σ H v u Q I r q => h.run pins s σ H v u Q I r (i v σ H Q q)⟩
theorem bgs_nil : PGs X [] (MGs X.K T []) := PGs.imp pgs_nil fun vs σ H Q h => by
  obtain ⟨α, F, env, cs, ds, rc, ev, r, env', e, q⟩ := h
  cases ds with
  | nil =>
    cases e
    exact ⟨r, q _ ev⟩
  | cons d ds => cases e
theorem bgs_cons {g : Mi.G} {gs : List Mi.G} {t : Expr} {ts : List Expr} (h1 : PG X t (MG X.K T g)) (h2 : PGs X ts (MGs X.K T gs)) (hs : (assignEach (t :: ts) X.env).map (·.2) = assign t X.env :: (assignEach ts X.env).map (·.2) := by rfl) : PGs X (t :: ts) (MGs X.K T (g :: gs)) := PGs.imp (pgs_cons h1 h2 hs) fun vs σ H Q h => by
  obtain ⟨α, F, env, cs, ds, rc, ev, r, env', e, q⟩ := h
  cases ds with
  | nil => cases e
  | cons d ds =>
    obtain ⟨v, s, rfl, r1, r2⟩ := r
    have e' : (g d env cs).bind (fun env' => Mi.gAll gs ds env' cs) = some env' := e
    cases e1 : g d env cs with
    | none => rw [e1] at e'; cases e'
    | some env1 =>
      rw [e1] at e'
      exact ⟨v, s, rfl, α, F, env, cs, d, rc, ev, r1, env1, e1, fun σ' ev' => ⟨α, F, env1, cs, ds, rc, ev', r2, env', e', q⟩⟩
theorem gAll_len : ∀ {gs : List Mi.G} {ds : List Mi.D} {env env' : Mi.Env} {cs : Mi.Cs}, Mi.gAll gs ds env cs = some env' → ds.length = gs.length
  | [], [], _, _, _, _ => rfl
  | g :: gs, d :: ds, env, env', cs, h => by
    have h' : (g d env cs).bind (fun env' => Mi.gAll gs ds env' cs) = some env' := h
    cases e : g d env cs with
    | none => rw [e] at h'; cases h'
    | some env1 =>
      rw [e] at h'
      rw [List.length_cons, List.length_cons, gAll_len h']
  | [], _ :: _, _, _, _, h => by cases h
  | _ :: _, [], _, _, _, h => by cases h
theorem bg_tup {gs : List Mi.G} {k} (hc : X.calm = true) (h : PGs X es (MGs X.K T gs)) (hn : (assignEach es X.env).length = gs.length := by rfl) (hst : (assignEach es X.env).findIdx? (·.1) = none := by rfl) : PG X (.Tuple es k pos) (MG X.K T (Mi.gT gs)) := by
  refine PG.imp (pg_tup (n := gs.length) hc h hn hst) fun v σ H Q h => ?_
  obtain ⟨α, F, env, cs, d, rc, ev, r, env', e, q⟩ := h
  cases d <;> try cases e
  rename_i ds
  obtain ⟨a, vs, rfl, s, r⟩ := r
  exact ⟨a, vs, rfl, same_sqT rc.same s, by rw [r.length]; exact gAll_len e, α, F, env, cs, ds, rc, ev, r, env', e, q⟩
theorem bs_asg {e : Expr} {g : Mi.G} (he : PE X e (MV X.K T W ea)) (hg : PG X tg (MG X.K T g)) (hs : swapsWithSole [tg] e pos.line X.env = pure false := by rfl) (hw : swappedStores [tg] e X.env = pure none := by rfl) (h1 : (assignEach [tg] X.env).map (·.2) = [assign tg X.env] := by rfl) : PS X (.Assign [tg] e pos) (MS X.K T W (Mi.sAsg g ea)) :=
  PS.imp (ps_asg he hg hs hw h1) fun D σ H h => by
    obtain ⟨α, F, env, cs, rc, ev, h⟩ := h
    refine ⟨α, F, env, cs, rc, ev, (OutS.thn ev h).mono fun α1 F1 cs1 H1 d lt1 rc1 o1 v r1 => ?_⟩
    cases q : g d env cs1 with
    | none => rw [q] at o1; exact o1.elim
    | some env' =>
      rw [q] at o1
      exact ⟨α1, F1, env, cs1, d, rc1, ev.mono lt1.toLt, r1, env', q, fun σ' ev' => OutS.nx o1 rc1 ev'⟩
theorem bs_par {i j : Nat} {x y : Str} {px py pt : Pos} {kt k2 pt2} (hc : X.calm = true) (hN : X.N.Nodup) (hi : X.N[i]? = some x) (hj : X.N[j]? = some y) (hij : i ≠ j) (hx : X.env.scope.names.lookup x = some .local) (hy : X.env.scope.names.lookup y = some .local)
    (ha : PE X a (MV X.K T W ea)) (hb : PE X b (MV X.K T W eb)) (na : starEach [a, b] X.env = (false, eval a X.env) :: starEach [b] X.env := by rfl) (nb : starEach [b] X.env = (false, eval b X.env) :: starEach [] X.env := by rfl)
    (hp : ∀ {t : TA}, PA X [a, b] t → PS X (.Assign [.Tuple [.Name x px, .Name y py] kt pt] (.Tuple [a, b] k2 pt2) pos) (tPar i j t)) : PS X (.Assign [.Tuple [.Name x px, .Name y py] kt pt] (.Tuple [a, b] k2 pt2) pos) (MS X.K T W (Mi.sPar i j ea eb)) :=
  PS.imp (hp (pa_cons ha (pa_cons hb pa_nil nb) na)) fun D σ H h => by
    obtain ⟨α, F, env, cs, rc, ev, h⟩ := h
    refine ⟨α, F, env, cs, rc, ev, (OutS.thn ev h).mono fun α1 F1 cs1 H1 d lt1 rc1 o1 v r1 => ?_⟩
    have ev1 := ev.mono lt1.toLt
    refine ⟨α1, F1, env, cs1, rc1, ev1, (OutS.thn ev1 o1).mono fun α2 F2 cs2 H2 d2 lt2 rc2 o2 v2 r2 => ?_⟩
    exact ⟨v, v2, rfl, OutS.nx o2 rc2 (((ev1.mono lt2.toLt).set (Rp.mono lt2.toLt _ _ r1) i).set r2 j)⟩

theorem ms_for {K : PySem.W.Frag} {it : Mi.I} {g : Mi.G} {s : Mi.S} (D : Ends) (σ : L2.St) (H : Hp) (h : MS K T W (Mi.sFor it g s) D σ H) : tFor (MI K T W it) (MG K T g) (MS K T W s) D σ H := by
  obtain ⟨α, F, env, cs, rc, ev, h⟩ := h
  refine ⟨α, F, env, cs, rc, ev, (OutS.thn ev h).mono fun α1 F1 cs1 H1 w lt1 rc1 o1 J hJ => ?_⟩
  refine ⟨fun i m σ H => ∃ α2 F2 env2 cs2, Nx α1 F1 H1 α2 F2 H ∧ RC K T α2 F2 cs2 H ∧ Ev K T α2 F2 env2 σ ∧ m = w.items.length - i ∧ i ≤ w.items.length ∧ OutS K T W α2 F2 H D (Mi.forL g s w.chk (w.items.drop i) env2 cs2),
    ⟨w.items.length, α1, F1, env, cs1, Nx.refl _ _ _, rc1, ev.mono lt1.toLt, by omega, Nat.zero_le _, o1⟩, ?_⟩
  rintro i m σ2 H2 ⟨α2, F2, env2, cs2, nx2, rc2, ev2, rfl, hi, o2⟩
  by_cases hlt : i < w.items.length
  · have hd : w.items.drop i = w.items[i] :: w.items.drop (i + 1) := List.drop_eq_getElem_cons hlt
    rw [hd] at o2
    unfold Mi.forL at o2
    by_cases hc : w.chk cs2 = true
    · rw [if_pos hc] at o2
      obtain ⟨hgo, hy⟩ := (hJ i α2 F2 cs2 H2 nx2 rc2 hc).1 w.items[i] (List.getElem?_eq_getElem hlt)
      refine .inr ⟨hgo, fun σ3 H3 => ∃ α3 F3 env3 cs3, Nx α1 F1 H1 α3 F3 H3 ∧ RC K T α3 F3 cs3 H3 ∧ Ev K T α3 F3 env3 σ3 ∧ OutS K T W α3 F3 H3 D (Mi.forL g s w.chk (w.items.drop (i + 1)) env3 cs3), ?_, fun x H3 y => ?_⟩
      · rintro σ3 H3 ⟨α3, F3, env3, cs3, nx3, rc3, ev3, o3⟩
        exact ⟨w.items.length - (i + 1), by omega, α3, F3, env3, cs3, nx3, rc3, ev3, rfl, by omega, o3⟩
      · obtain ⟨F3, nx3, rc3, r3⟩ := hy x H3 y
        cases eg : g w.items[i] env2 cs2 with
        | none => rw [eg] at o2; exact o2.elim
        | some env3 =>
          rw [eg] at o2
          dsimp only at o2
          have o2 := OutS.later nx3 o2
          refine ⟨α2, F3, env2, cs2, w.items[i], rc3, ev2.mono nx3.toLt, r3, env3, eg, fun σ4 ev4 => ⟨α2, F3, env3, cs2, rc3, ev4, ?_⟩⟩
          cases eb : s env3 cs2 with
          | none => rw [eb] at o2; exact o2.elim
          | some ob =>
            rw [eb] at o2
            cases ob with
            | nx env5 cs5 => exact fun α5 F5 H5 σ5 nx5 rc5 ev5 => ⟨α5, F5, env5, cs5, (nx2.trans nx3).trans nx5, rc5, ev5, OutS.later nx5 o2⟩
            | ct env5 cs5 => exact fun α5 F5 H5 σ5 nx5 rc5 ev5 => ⟨α5, F5, env5, cs5, (nx2.trans nx3).trans nx5, rc5, ev5, OutS.later nx5 o2⟩
            | bk env5 cs5 => exact o2
            | rt d cs5 => exact o2
            | x c env5 cs5 => exact o2
    · rw [if_neg hc] at o2
      exact o2.elim
  · have e : i = w.items.length := by omega
    have hd : w.items.drop i = [] := List.drop_eq_nil_of_le (by omega)
    rw [hd] at o2
    unfold Mi.forL at o2
    by_cases hc : w.chk cs2 = true
    · rw [if_pos hc] at o2
      exact .inl ⟨(hJ i α2 F2 cs2 H2 nx2 rc2 hc).2 (List.getElem?_eq_none (by omega)), OutS.nx o2 rc2 ev2⟩
    · rw [if_neg hc] at o2
      exact o2.elim
theorem bs_for {iter : Expr} {body : List Stmt} {it : Mi.I} {g : Mi.G} {s : Mi.S} (hp : PassesOwn (model X.prog X.w) X.A X.env X.xe) (hc : X.calm = true) (hi : PI X tg iter (MI X.K T W it)) (hg : PG X tg (MG X.K T g)) (hb : PSs X body (MS X.K T W s))
    (hs : ∀ x, foldedSetIterable iter X.env x = pure x := by intro _; rfl) : PS X (.For tg iter body [] pos) (MS X.K T W (Mi.sFor it g s)) := PS.imp (ps_for hp hc hi hg hb hs) ms_for
theorem ms_while {K : PySem.W.Frag} {t : Mi.E} {s : Mi.S} (D : Ends) (σ : L2.St) (H : Hp) (h : MS K T W (Mi.sWhile t s) D σ H) : tWhile (MT K T W t) (MS K T W s) D σ H := by
  obtain ⟨α, F, env, cs, rc, ev, h⟩ := h
  refine ⟨fun m σ H => MS K T W (Mi.whileL t s m) D σ H, ⟨Mi.FUEL, α, F, env, cs, rc, ev, h⟩, ?_⟩
  rintro m σ2 H2 ⟨α2, F2, env2, cs2, rc2, ev2, o2⟩
  cases m with
  | zero => exact o2.elim
  | succ m =>
    refine ⟨α2, F2, env2, cs2, rc2, ev2, (OutS.thn ev2 (show OutS K T W α2 F2 H2 D (Mi.thn env2 (t env2 cs2) _) from o2)).mono fun α3 F3 cs3 H3 d lt3 rc3 o3 => ?_⟩
    cases d <;> try exact o3.elim
    rename_i k
    refine ⟨k, rfl, ?_⟩
    have ev3 := ev2.mono lt3.toLt
    cases k with
    | false => exact OutS.nx o3 rc3 ev3
    | true =>
      refine ⟨fun σ H => MS K T W (Mi.whileL t s m) D σ H, fun σ' H' h' => ⟨m, Nat.lt_succ_self _, h'⟩, α3, F3, env2, cs3, rc3, ev3, ?_⟩
      have o3' : OutS K T W α3 F3 H3 D (match s env2 cs3 with
        | some (.nx env' cs') => Mi.whileL t s m env' cs'
        | some (.ct env' cs') => Mi.whileL t s m env' cs'
        | some (.bk env' cs') => some (.nx env' cs')
        | o => o) := o3
      cases eb : s env2 cs3 with
      | none => rw [eb] at o3'; exact o3'.elim
      | some ob =>
        rw [eb] at o3'
        cases ob with
        | nx env5 cs5 => exact fun α5 F5 H5 σ5 nx5 rc5 ev5 => ⟨α5, F5, env5, cs5, rc5, ev5, OutS.later nx5 o3'⟩
        | ct env5 cs5 => exact fun α5 F5 H5 σ5 nx5 rc5 ev5 => ⟨α5, F5, env5, cs5, rc5, ev5, OutS.later nx5 o3'⟩
        | bk env5 cs5 => exact o3'
        | rt d cs5 => exact o3'
        | x c env5 cs5 => exact o3'
theorem bs_while {body : List Stmt} {t : Mi.E} {s : Mi.S} (hp : PassesOwn (model X.prog X.w) X.A X.env X.xe) (hc : PT X c (MT X.K T W t)) (hb : PSs X body (MS X.K T W s)) : PS X (.While c body [] pos) (MS X.K T W (Mi.sWhile t s)) := PS.imp (ps_while hp hc hb) ms_while
end
end Br
end
section
set_option Elab.async false
set_option linter.all false
set_option maxRecDepth 100000
set_option maxHeartbeats 4000000
namespace Br
open PySem PySem.Spec PyProof.Rows L2
abbrev W0 : WX := fun _ _ _ _ => False

section
variable {K : PySem.W.Frag} {T : Tab} {W : WX}
theorem wipe_len (σ : L2.St) : ∀ vs : List Nat, (L2.wipe σ vs).length = σ.length := L2.wipe_length σ
theorem wipe_set {σ : L2.St} {i : Nat} {x : Option V} : ∀ {vs : List Nat}, i ∈ vs → L2.wipe (σ.set i x) vs = L2.wipe σ vs
  | v :: vs, h => by
    unfold L2.wipe
    by_cases hv : i ∈ vs
    · rw [wipe_set hv]
    · have e : v = i := by
        rcases List.mem_cons.mp h with h | h
        · exact h.symm
        · exact (hv h).elim
      subst e
      rw [wipe_out hv, List.set_set]
where
  wipe_out {σ : L2.St} {i : Nat} {x : Option V} : ∀ {vs : List Nat}, i ∉ vs → L2.wipe (σ.set i x) vs = (L2.wipe σ vs).set i x
  | [], _ => rfl
  | v :: vs, h => by
    unfold L2.wipe
    rw [wipe_out (fun z => h (List.mem_cons_of_mem _ z)), List.set_comm _ _ (fun z => h (by rw [z]; exact List.mem_cons_self))]
end
def MC (K : PySem.W.Frag) (T : Tab) (vs : List Nat) (g : Mi.G) : TG := fun v σ H Q => ∃ α F env cs d, RC K T α F cs H ∧ Ev K T α F env σ ∧ Rp K T α F d v ∧ ∃ env', g d env cs = some env' ∧ ∀ σ', Ev K T α F env' σ' → L2.wipe σ' vs = L2.wipe σ vs → Q σ' H
def MCs (K : PySem.W.Frag) (T : Tab) (ws : List Nat) (gs : List Mi.G) : TGs := fun vs σ H Q => ∃ α F env cs ds, RC K T α F cs H ∧ Ev K T α F env σ ∧ Rps K T α F ds vs ∧ ∃ env', Mi.gAll gs ds env cs = some env' ∧ ∀ σ', Ev K T α F env' σ' → L2.wipe σ' ws = L2.wipe σ ws → Q σ' H
section
variable {X : Cx} {T : Tab} {W : WX} {a b c o tg : Expr} {ea eb ec : Mi.E} {l : Mi.EL} {es rest : List Expr} {pos apos cpos p : Pos}
theorem cg_name {i : Nat} {x : Str} {ws : List Nat} (hw : i ∈ ws) (hN : X.N.Nodup) (hi : X.N[i]? = some x) (hx : Loc X.env.scope x) (hf : X.fn x = true ∨ X.env.scope.names.lookup x = some .local := by first | exact .inl rfl | exact .inr rfl | assumption) : PG X (.Name x pos) (MC X.K T ws (Mi.gN i)) :=
  PG.imp (pg_name hN hi hx hf) fun v σ H Q h => by
    obtain ⟨α, F, env, cs, d, rc, ev, r, env', e, q⟩ := h
    cases e
    exact q _ (ev.set r i) (wipe_set hw)
theorem cgs_nil {ws : List Nat} : PGs X [] (MCs X.K T ws []) := PGs.imp pgs_nil fun vs σ H Q h => by
  obtain ⟨α, F, env, cs, ds, rc, ev, r, env', e, q⟩ := h
  cases ds with
  | nil =>
    cases e
    exact ⟨r, q _ ev rfl⟩
  | cons d ds => cases e
theorem cgs_cons {ws : List Nat} {g : Mi.G} {gs : List Mi.G} {t : Expr} {ts : List Expr} (h1 : PG X t (MC X.K T ws g)) (h2 : PGs X ts (MCs X.K T ws gs)) (hs : (assignEach (t :: ts) X.env).map (·.2) = assign t X.env :: (assignEach ts X.env).map (·.2) := by rfl) : PGs X (t :: ts) (MCs X.K T ws (g :: gs)) := PGs.imp (pgs_cons h1 h2 hs) fun vs σ H Q h => by
  obtain ⟨α, F, env, cs, ds, rc, ev, r, env', e, q⟩ := h
  cases ds with
  | nil => cases e
  | cons d ds =>
    obtain ⟨v, s, rfl, r1, r2⟩ := r
    have e' : (g d env cs).bind (fun env' => Mi.gAll gs ds env' cs) = some env' := e
    cases e1 : g d env cs with
    | none => rw [e1] at e'; cases e'
    | some env1 =>
      rw [e1] at e'
      exact ⟨v, s, rfl, α, F, env, cs, d, rc, ev, r1, env1, e1, fun σ' ev' hw => ⟨α, F, env1, cs, ds, rc, ev', r2, env', e', fun σ2 ev2 hw2 => q σ2 ev2 (hw2.trans hw)⟩⟩
theorem cg_tup {ws : List Nat} {gs : List Mi.G} {k} (hc : X.calm = true) (h : PGs X es (MCs X.K T ws gs)) (hn : (assignEach es X.env).length = gs.length := by rfl) (hst : (assignEach es X.env).findIdx? (·.1) = none := by rfl) : PG X (.Tuple es k pos) (MC X.K T ws (Mi.gT gs)) := by
  refine PG.imp (pg_tup (n := gs.length) hc h hn hst) fun v σ H Q h => ?_
  obtain ⟨α, F, env, cs, d, rc, ev, r, env', e, q⟩ := h
  cases d <;> try cases e
  rename_i ds
  obtain ⟨a, vs, rfl, s, r⟩ := r
  exact ⟨a, vs, rfl, same_sqT rc.same s, by rw [r.length]; exact gAll_len e, α, F, env, cs, ds, rc, ev, r, env', e, q⟩
theorem Ev.len_wipe {K : PySem.W.Frag} {α F env σ} (h : Ev K T α F env σ) (vs : List Nat) : Ev K T α F (Mi.wipe env vs) (L2.wipe σ vs) := h.wipe vs
theorem ml_lc {K : PySem.W.Frag} {it : Mi.I} {g : Mi.G} {t e : Mi.E} {vs : List Nat} (σ : L2.St) (H : Hp) (Q : VK) (h : ML K T W (Mi.lComp vs it g t e) σ H Q) : tLc (MI K T W it) (MC K T vs g) (MT K T W0 t) (MV K T W0 e) vs σ H Q := by
  obtain ⟨α, F, env, cs, rc, ev, h⟩ := h
  refine ⟨α, F, env, cs, rc, ev, h.bnd' fun α1 F1 cs1 H1 w lt1 rc1 o1 J hJ => ?_⟩
  intro D hD
  have hD0 : H D = none := lt1.dom D hD
  obtain ⟨hDf, hDa⟩ := rc1.new_out hD
  have ev1 := (ev.mono lt1.toLt).wipe vs
  
  refine ⟨fun i m H2 => ∃ α2 F2 cs2 acc ws, Nx α1 F1 H1 α2 F2 H2 ∧ RC K T α2 F2 cs2 H2 ∧ H2 D = some (.lst ws) ∧ F2 D = none ∧ D ∉ α2 ∧ Rps K T α2 F2 acc ws ∧ m = w.items.length - i ∧ i ≤ w.items.length ∧
    Out K T W σ α F H (Mi.lcLoop (Mi.wipe env vs) g t e w.chk (w.items.drop i) acc cs2) (fun α' F' _ H' ds => ∀ p vs, H p = none → H' p = some (.lst vs) → F' p = none → p ∉ α' → Rps K T α' F' ds vs → Q (.ref p) H'),
    ⟨w.items.length, α1, F1, cs1, [], [], Nx.alloc hD, rc1.alloc hD, upd_same, hDf, hDa, rfl, by omega, Nat.zero_le _, o1⟩, ?_⟩
  rintro i m H2 ⟨α2, F2, cs2, acc, ws, nx2, rc2, eD, fD, aD, rA, rfl, hi, o2⟩
  have nx02 : Nx α F H α2 F2 H2 := lt1.trans nx2
  by_cases hlt : i < w.items.length
  · have hd : w.items.drop i = w.items[i] :: w.items.drop (i + 1) := List.drop_eq_getElem_cons hlt
    rw [hd] at o2
    unfold Mi.lcLoop at o2
    by_cases hc : w.chk cs2 = true
    · rw [if_pos hc] at o2
      obtain ⟨hgo, hy⟩ := (hJ i α2 F2 cs2 H2 nx2 rc2 hc).1 w.items[i] (List.getElem?_eq_getElem hlt)
      refine .inr ⟨hgo, fun H3 => ∃ α3 F3 cs3 acc3 ws3, Nx α1 F1 H1 α3 F3 H3 ∧ RC K T α3 F3 cs3 H3 ∧ H3 D = some (.lst ws3) ∧ F3 D = none ∧ D ∉ α3 ∧ Rps K T α3 F3 acc3 ws3 ∧
        Out K T W σ α F H (Mi.lcLoop (Mi.wipe env vs) g t e w.chk (w.items.drop (i + 1)) acc3 cs3) (fun α' F' _ H' ds => ∀ p vs, H p = none → H' p = some (.lst vs) → F' p = none → p ∉ α' → Rps K T α' F' ds vs → Q (.ref p) H'), ?_, fun x H3 y => ?_⟩
      · rintro H3 ⟨α3, F3, cs3, acc3, ws3, q1, q2, q3, q4, q5, q6, q7⟩
        exact ⟨w.items.length - (i + 1), by omega, α3, F3, cs3, acc3, ws3, q1, q2, q3, q4, q5, q6, rfl, by omega, q7⟩
      · obtain ⟨F3, nx3, rc3, r3⟩ := hy x H3 y
        obtain ⟨eD3, fD3, aD3⟩ := nx3.fr D _ eD fD aD
        cases eg : g w.items[i] (Mi.wipe env vs) cs2 with
        | none => rw [eg] at o2; exact o2.elim
        | some env3 =>
          rw [eg] at o2
          dsimp only at o2
          refine ⟨α2, F3, Mi.wipe env vs, cs2, w.items[i], rc3, ev1.mono (nx2.trans nx3).toLt, r3, env3, eg, fun σ4 ev4 hw => ⟨by rw [hw]; exact wipe_wipe σ vs, ?_⟩⟩
          refine ⟨α2, F3, env3, cs2, rc3, ev4, ?_⟩
          cases et : t env3 cs2 with
          | none => rw [et] at o2; exact o2.elim
          | some ot =>
            rw [et] at o2
            cases ot with
            | x c cs4 => exact o2.elim
            | v d cs4 =>
              cases d <;> try exact o2.elim
              rename_i k
              intro α4 F4 H4 nx4 rc4
              obtain ⟨eD4, fD4, aD4⟩ := nx4.fr D _ eD3 fD3 aD3
              refine ⟨k, rfl, ?_⟩
              cases k with
              | false =>
                rw [if_neg Bool.false_ne_true]
                exact ⟨α4, F4, cs4, acc, ws, (nx2.trans nx3).trans nx4, rc4, eD4, fD4, aD4, rA.mono' (nx3.trans nx4).toLt, o2⟩
              | true =>
                rw [if_pos rfl]
                dsimp only at o2
                refine ⟨α4, F4, env3, cs4, rc4, ev4.mono nx4.toLt, ?_⟩
                cases ee : e env3 cs4 with
                | none => rw [ee] at o2; exact o2.elim
                | some oe =>
                  rw [ee] at o2
                  cases oe with
                  | x c cs5 => exact o2.elim
                  | v d cs5 =>
                    dsimp only at o2
                    intro α5 F5 H5 nx5 rc5 u r5
                    obtain ⟨eD5, fD5, aD5⟩ := nx5.fr D _ eD4 fD4 aD4
                    by_cases hl : acc.length < Mi.SIZE
                    · rw [if_pos hl] at o2
                      have rA5 := rA.mono' ((nx3.trans nx4).trans nx5).toLt
                      refine ⟨ws, eD5, by rw [rA.length, ← size_eq]; exact hl, ?_⟩
                      have nxD : Nx α1 F1 H1 α5 F5 (upd H5 D (.lst (ws ++ [u]))) := by
                        have q := ((nx2.trans nx3).trans nx4).trans nx5
                        refine ⟨q.toLt, fun b ob e1 e2 e3 => ?_, fun b e1 => ?_⟩
                        · have hb := ne_of_none e1 hD
                          rw [upd_ne hb]
                          exact q.fr b ob e1 e2 e3
                        · by_cases hb : b = D
                          · subst hb
                            exact hD
                          · rw [upd_ne hb] at e1
                            exact q.dom b e1
                      refine ⟨α5, F5, cs5, acc ++ [d], ws ++ [u], nxD, ?_, upd_same, fD5, aD5, rA5.append (Rps.one r5), o2⟩
                      refine ⟨fun b ob e1 => ?_, rc5.len, rc5.nd, rc5.out, fun k a c h1 h2 => ?_⟩
                      · rw [upd_ne (ne_of_none e1 fD5)]
                        exact rc5.same _ _ e1
                      · refine (rc5.ok k a c h1 h2).heap (upd_ne fun z => aD5 ?_)
                        subst z
                        exact List.mem_of_getElem? h1
                    · rw [if_neg hl] at o2
                      exact o2.elim
    · rw [if_neg hc] at o2
      exact o2.elim
  · have e : i = w.items.length := by omega
    have hd : w.items.drop i = [] := List.drop_eq_nil_of_le (by omega)
    rw [hd] at o2
    unfold Mi.lcLoop at o2
    by_cases hc : w.chk cs2 = true
    · rw [if_pos hc] at o2
      exact .inl ⟨(hJ i α2 F2 cs2 H2 nx2 rc2 hc).2 (List.getElem?_eq_none (by omega)), o2 _ _ _ nx02 rc2 D ws hD0 eD fD aD rA⟩
    · rw [if_neg hc] at o2
      exact o2.elim
where
  wipe_wipe (σ : L2.St) : ∀ vs : List Nat, L2.wipe (L2.wipe σ vs) vs = L2.wipe σ vs := fun vs => by
    have aux : ∀ (us vs : List Nat), (∀ i ∈ us, i ∈ vs) → ∀ σ : L2.St, L2.wipe (L2.wipe σ us) vs = L2.wipe σ vs := by
      intro us
      induction us with
      | nil => intro vs _ σ; rfl
      | cons u us ih =>
        intro vs hs σ
        show L2.wipe ((L2.wipe σ us).set u none) vs = _
        rw [wipe_set (hs u List.mem_cons_self), ih vs (fun i hi => hs i (List.mem_cons_of_mem _ hi))]
    exact aux vs vs (fun _ h => h) σ
theorem bl_comp {elt iter : Expr} {ifs : List Expr} {scope : Scope} {own : List (Str × Nat)} {it : Mi.I} {g : Mi.G} {t e : Mi.E} (hc : X.calm = true) (hN : X.N.Nodup) (hi : PI X tg iter (MI X.K T W it)) (ok : BlkOk X.N X.env.scope scope own)
    (hg : ∀ (s : Shared) (H : Hp) (C : Addr) (cl : List (Str × Addr)) (fp : List Addr), PG (X.blk s H scope (compEnvC scope cl C X.env) fp) tg (MC X.K T (own.map (·.2)) g))
    (ht : ∀ (s : Shared) (H : Hp) (C : Addr) (cl : List (Str × Addr)) (fp : List Addr), PTs (X.blk s H scope (compEnvC scope cl C X.env) fp) ifs (MT X.K T W0 t))
    (he : ∀ (s : Shared) (H : Hp) (C : Addr) (cl : List (Str × Addr)) (fp : List Addr), PE (X.blk s H scope (compEnvC scope cl C X.env) fp) elt (MV X.K T W0 e)) (hs : ∀ x, foldedSetIterable iter X.env x = pure x := by intro _; rfl) :
    PE X (.ListComp elt [⟨tg, iter, ifs, 0⟩] scope pos) (ML X.K T W (Mi.lComp (own.map (·.2)) it g t e)) := PE.imp (pe_lc hc hN hi ok hg ht he hs) ml_lc
theorem bts_nil : PTs X [] (MT X.K T W Mi.eYes) := ⟨fun pins s σ H Q I h => by
  obtain ⟨α, F, env, cs, rc, ev, h⟩ := h
  obtain ⟨k, e, q⟩ := h.v (Nx.refl _ _ _) rc
  cases e
  exact pts_nil.run pins s σ H Q I q⟩
theorem bts_one (h : PT X c (MT X.K T W ec)) : PTs X [c] (MT X.K T W ec) := pts_one h
theorem ms_setL {K : PySem.W.Frag} {i : Nat} {e : Mi.EL} {te : TE} (hi : ∀ σ H Q, ML K T W e σ H Q → te σ H Q) (D : Ends) (σ : L2.St) (H : Hp) (h : MS K T W (Mi.sSet i (Mi.eL e)) D σ H) : tAsg te (gName i) D σ H := by
  obtain ⟨α, F, env, cs, rc, ev, h⟩ := h
  refine hi σ H _ ⟨α, F, env, cs, rc, ev, (OutS.thn ev h).bnd' fun α1 F1 cs1 H1 xs lt1 rc1 o1 p vs h0 hp hf ha r1 => ?_⟩
  obtain ⟨rc3, lt3, nx3⟩ := rc1.ground' lt1 h0 hp hf ha
  exact OutS.nx (o1 _ _ _ nx3 rc3) rc3 ((ev.mono nx3.toLt).set (d := .lst xs) (v := .ref p) ⟨p, vs, rfl, upd_same, r1.mono' lt3⟩ i)
theorem ms_setLc {K : PySem.W.Frag} {i : Nat} {e : Mi.EL} {te : TE} (hi : ∀ σ H Q, ML K T W e σ H Q → te σ H Q) (D : Ends) (σ : L2.St) (H : Hp) (h : MS K T W (Mi.sSet i (Mi.eLc e)) D σ H) : tAsg te (gName i) D σ H := by
  obtain ⟨α, F, env, cs, rc, ev, h⟩ := h
  refine hi σ H _ ⟨α, F, env, cs, rc, ev, (OutS.thn ev h).bnd' fun α1 F1 cs1 H1 xs lt1 rc1 o1 p vs h0 hp hf ha r1 => ?_⟩
  obtain ⟨rc3, nx3⟩ := rc1.push lt1 h0 hf ha (c := .lst xs) ⟨vs, hp, r1⟩
  refine OutS.nx (o1 _ _ _ nx3 rc3) rc3 ((ev.mono nx3.toLt).set (d := .cell cs1.length) (v := .ref p) ⟨p, ?_, rfl⟩ i)
  rw [← rc1.len, List.getElem?_append_right (Nat.le_refl _), Nat.sub_self]
  rfl
section
variable {elt iter : Expr} {ifs : List Expr} {scope : Scope} {own : List (Str × Nat)} {it : Mi.I} {g : Mi.G} {t e : Mi.E} {i : Nat} {y : Str} {py spos : Pos}
theorem bs_setComp (hy : X.N[i]? = some y) (hyl : X.env.scope.names.lookup y = some .local) (hsw : swapsWith (.ListComp elt [⟨tg, iter, ifs, 0⟩] scope pos) (some (.Name y py)) spos.line X.env = pure true)
    (hc : X.calm = true) (hN : X.N.Nodup) (hi : PI X tg iter (MI X.K T W it)) (ok : BlkOk X.N X.env.scope scope own)
    (hg : ∀ (s : Shared) (H : Hp) (C : Addr) (cl : List (Str × Addr)) (fp : List Addr), PG (X.blk s H scope (compEnvC scope cl C X.env) fp) tg (MC X.K T (own.map (·.2)) g))
    (ht : ∀ (s : Shared) (H : Hp) (C : Addr) (cl : List (Str × Addr)) (fp : List Addr), PTs (X.blk s H scope (compEnvC scope cl C X.env) fp) ifs (MT X.K T W0 t))
    (he : ∀ (s : Shared) (H : Hp) (C : Addr) (cl : List (Str × Addr)) (fp : List Addr), PE (X.blk s H scope (compEnvC scope cl C X.env) fp) elt (MV X.K T W0 e)) (hs : ∀ x, foldedSetIterable iter X.env x = pure x := by intro _; rfl) :
    PS X (.Assign [.Name y py] (.ListComp elt [⟨tg, iter, ifs, 0⟩] scope pos) spos) (MS X.K T W (Mi.sSet i (Mi.eL (Mi.lComp (own.map (·.2)) it g t e)))) := PS.imp (ps_setLc hc hN hy hyl hsw hi ok hg ht he hs) (ms_setL ml_lc)
theorem bs_setCompC (hy : X.N[i]? = some y) (hyl : X.env.scope.names.lookup y = some .local) (hsw : swapsWith (.ListComp elt [⟨tg, iter, ifs, 0⟩] scope pos) (some (.Name y py)) spos.line X.env = pure true)
    (hc : X.calm = true) (hN : X.N.Nodup) (hi : PI X tg iter (MI X.K T W it)) (ok : BlkOk X.N X.env.scope scope own)
    (hg : ∀ (s : Shared) (H : Hp) (C : Addr) (cl : List (Str × Addr)) (fp : List Addr), PG (X.blk s H scope (compEnvC scope cl C X.env) fp) tg (MC X.K T (own.map (·.2)) g))
    (ht : ∀ (s : Shared) (H : Hp) (C : Addr) (cl : List (Str × Addr)) (fp : List Addr), PTs (X.blk s H scope (compEnvC scope cl C X.env) fp) ifs (MT X.K T W0 t))
    (he : ∀ (s : Shared) (H : Hp) (C : Addr) (cl : List (Str × Addr)) (fp : List Addr), PE (X.blk s H scope (compEnvC scope cl C X.env) fp) elt (MV X.K T W0 e)) (hs : ∀ x, foldedSetIterable iter X.env x = pure x := by intro _; rfl) :
    PS X (.Assign [.Name y py] (.ListComp elt [⟨tg, iter, ifs, 0⟩] scope pos) spos) (MS X.K T W (Mi.sSet i (Mi.eLc (Mi.lComp (own.map (·.2)) it g t e)))) := PS.imp (ps_setLc hc hN hy hyl hsw hi ok hg ht he hs) (ms_setLc ml_lc)
end
end
end Br
end
section
set_option Elab.async false
set_option linter.all false
set_option maxRecDepth 100000
set_option maxHeartbeats 4000000
namespace Br
open PySem PySem.Spec PyProof.Rows L2

def spM (K : PySem.W.Frag) (T : Tab) (f : Mi.Fn) : Sp := fun vs H Q E => ∃ α F cs ds, RC K T α F cs H ∧ Rps K T α F ds vs ∧ Out K T (fun c d _ H => E c d H) [] α F H (f ds cs) fun α' F' _ H' d => ∀ v, Rp K T α' F' d v → Q v H'

section
variable {K : PySem.W.Frag} {T : Tab} {W : WX} {α α' β : List Addr} {F F' F'' H H' : Hp} {cs cs' : Mi.Cs}
mutual
theorem Rp.cut (fl : FLe F' F'') (n : Nat) (ha : ∀ (k : Nat) a, k < n → α'[k]? = some a → α[k]? = some a) : ∀ (d : Mi.D) (v : V), d.under n = true → Rp K T α' F' d v → Rp K T α F'' d v
  | .non, _, _, r => r
  | .bl _, _, _, r => r
  | .int _, _, _, r => r
  | .str _, _, _, r => r
  | .tup xs, _, u, r => by
    obtain ⟨a, vs, e, s, q⟩ := r
    simp only [Mi.D.under] at u
    exact ⟨a, vs, e, fl.sqT s, Rps.cut' fl n ha xs vs u q⟩
  | .lst xs, _, u, r => by
    obtain ⟨a, vs, e, s, q⟩ := r
    simp only [Mi.D.under] at u
    exact ⟨a, vs, e, fl.ex _ _ s (fun _ z => nomatch z) (fun _ z => nomatch z), Rps.cut' fl n ha xs vs u q⟩
  | .fro xs, _, u, r => by
    obtain ⟨a, vs, e, s, q⟩ := r
    simp only [Mi.D.under] at u
    exact ⟨a, vs, e, fl.sqL s, Rps.cut' fl n ha xs vs u q⟩
  | .dct _ _, _, _, r => r.elim
  | .obj c fs, _, u, r => by
    obtain ⟨a, C, dx, nm, gs, e, t, s, k, q⟩ := r
    simp only [Mi.D.under] at u
    exact ⟨a, C, dx, nm, gs, e, t, fl.ex _ _ s (fun _ z => nomatch z) (fun _ z => nomatch z), k, Rps.cut' fl n ha fs _ u q⟩
  | .cell k, _, u, r => by
    obtain ⟨a, e, q⟩ := r
    simp only [Mi.D.under] at u
    exact ⟨a, ha k a (of_decide_eq_true u) e, q⟩
theorem Rps.cut' (fl : FLe F' F'') (n : Nat) (ha : ∀ (k : Nat) a, k < n → α'[k]? = some a → α[k]? = some a) : ∀ (ds : List Mi.D) (vs : List V), Mi.D.unders n ds = true → Rps K T α' F' ds vs → Rps K T α F'' ds vs
  | [], _, _, r => r
  | d :: ds, _, u, r => by
    obtain ⟨v, s, e, p, q⟩ := r
    simp only [Mi.D.unders, Bool.and_eq_true] at u
    exact ⟨v, s, e, Rp.cut fl n ha d v u.1 p, Rps.cut' fl n ha ds s u.2 q⟩
end
theorem COk.cut (fl : FLe F' F'') (n : Nat) (ha : ∀ (k : Nat) a, k < n → α'[k]? = some a → α[k]? = some a) {a : Addr} {c : Mi.Cell} (u : c.under n = true) (r : COk K T α' F' H a c) : COk K T α F'' H a c := by
  cases c with
  | lst xs =>
    obtain ⟨vs, e, q⟩ := r
    exact ⟨vs, e, Rps.cut' fl n ha _ _ u q⟩
  | dct ks ws =>
    obtain ⟨kvs, e, k, q⟩ := r
    have u' : (Mi.D.unders n ks && Mi.D.unders n ws) = true := u
    rw [Bool.and_eq_true] at u'
    exact ⟨kvs, e, k, Rps.cut' fl n ha _ _ u'.2 q⟩
  | obj c fs =>
    obtain ⟨C, dx, nm, gs, t, e, k, q⟩ := r
    exact ⟨C, dx, nm, gs, t, e, k, Rps.cut' fl n ha _ _ u q⟩
  | lck ks ws =>
    obtain ⟨o, kvs, f, e, k, q⟩ := r
    have u' : (Mi.D.unders n ks && Mi.D.unders n ws) = true := u
    rw [Bool.and_eq_true] at u'
    exact ⟨o, kvs, fl.ex _ _ f (fun _ z => nomatch z) (fun _ z => nomatch z), e, k, Rps.cut' fl n ha _ _ u'.2 q⟩
  | tdc ks ws =>
    obtain ⟨kvs, e, k, q⟩ := r
    have u' : (Mi.D.unders n ks && Mi.D.unders n ws) = true := u
    rw [Bool.and_eq_true] at u'
    exact ⟨kvs, e, k, Rps.cut' fl n ha _ _ u'.2 q⟩
theorem keys_under {n : Nat} : ∀ kvs : List (Key × V), Mi.D.unders n (kvs.map fun p => keyD p.1) = true
  | [] => rfl
  | p :: r => by
    rw [List.map_cons]
    simp only [Mi.D.unders, keys_under r, Bool.and_true]
    cases p.1 <;> rfl
theorem key_under {n : Nat} : ∀ ks : List Key, Mi.D.unders n (ks.map keyD) = true
  | [] => rfl
  | p :: r => by
    rw [List.map_cons]
    simp only [Mi.D.unders, key_under r, Bool.and_true]
    cases p <;> rfl
theorem tkeys_under {n : Nat} : ∀ kvs : List (List Key × V), Mi.D.unders n (kvs.map fun p => Mi.D.tup (p.1.map keyD)) = true
  | [] => rfl
  | p :: r => by
    rw [List.map_cons]
    simp only [Mi.D.unders, tkeys_under r, Bool.and_true, Mi.D.under, key_under]
theorem COk.under {a : Addr} {c : Mi.Cell} (r : COk K T α F H a c) : c.under α.length = true := by
  cases c with
  | lst xs =>
    obtain ⟨vs, e, q⟩ := r
    exact Rps.unders _ _ q
  | dct ks ws =>
    obtain ⟨kvs, e, k, q⟩ := r
    show (Mi.D.unders α.length ks && Mi.D.unders α.length ws) = true
    rw [← k, keys_under, Rps.unders _ _ q]
    rfl
  | obj c fs =>
    obtain ⟨C, dx, nm, gs, t, e, k, q⟩ := r
    exact Rps.unders _ _ q
  | lck ks ws =>
    obtain ⟨o, kvs, f, e, k, q⟩ := r
    show (Mi.D.unders α.length ks && Mi.D.unders α.length ws) = true
    rw [← k, keys_under, Rps.unders _ _ q]
    rfl
  | tdc ks ws =>
    obtain ⟨kvs, e, k, q⟩ := r
    show (Mi.D.unders α.length ks && Mi.D.unders α.length ws) = true
    rw [← k, tkeys_under, Rps.unders _ _ q]
    rfl
theorem subst_keys {g : Nat → Option Mi.D} : ∀ (kvs : List (Key × V)), Mi.D.substs g (kvs.map fun p => keyD p.1) = some (kvs.map fun p => keyD p.1)
  | [] => rfl
  | p :: r => by
    rw [List.map_cons]
    have e : Mi.D.subst g (keyD p.1) = some (keyD p.1) := by cases p.1 <;> rfl
    simp only [Mi.D.substs, e, subst_keys r, Option.bind_some, Option.map_some]
mutual
theorem Rp.subst {g : Nat → Option Mi.D} (fl : FLe F' F'') (hg : ∀ (k : Nat) a d', α'[k]? = some a → g k = some d' → Rp K T α F'' d' (.ref a)) : ∀ (d d' : Mi.D) (v : V), Mi.D.subst g d = some d' → Rp K T α' F' d v → Rp K T α F'' d' v
  | .non, _, _, e, r => by cases e; exact r
  | .bl _, _, _, e, r => by cases e; exact r
  | .int _, _, _, e, r => by cases e; exact r
  | .str _, _, _, e, r => by cases e; exact r
  | .tup xs, _, _, u, r => by
    obtain ⟨a, vs, e, s, q⟩ := r
    simp only [Mi.D.subst, Option.map_eq_some_iff] at u
    obtain ⟨ys, u1, rfl⟩ := u
    exact ⟨a, vs, e, fl.sqT s, Rps.subst fl hg xs ys vs u1 q⟩
  | .lst xs, _, _, u, r => by
    obtain ⟨a, vs, e, s, q⟩ := r
    simp only [Mi.D.subst, Option.map_eq_some_iff] at u
    obtain ⟨ys, u1, rfl⟩ := u
    exact ⟨a, vs, e, fl.ex _ _ s (fun _ z => nomatch z) (fun _ z => nomatch z), Rps.subst fl hg xs ys vs u1 q⟩
  | .fro xs, _, _, u, r => by
    obtain ⟨a, vs, e, s, q⟩ := r
    simp only [Mi.D.subst, Option.map_eq_some_iff] at u
    obtain ⟨ys, u1, rfl⟩ := u
    exact ⟨a, vs, e, fl.sqL s, Rps.subst fl hg xs ys vs u1 q⟩
  | .dct _ _, _, _, _, r => r.elim
  | .obj c fs, _, _, u, r => by
    obtain ⟨a, C, dx, nm, gs, e, t, s, k, q⟩ := r
    simp only [Mi.D.subst, Option.map_eq_some_iff] at u
    obtain ⟨ys, u1, rfl⟩ := u
    exact ⟨a, C, dx, nm, gs, e, t, fl.ex _ _ s (fun _ z => nomatch z) (fun _ z => nomatch z), k, Rps.subst fl hg fs ys _ u1 q⟩
  | .cell k, d', _, u, r => by
    obtain ⟨a, e, rfl⟩ := r
    exact hg k a d' e u
theorem Rps.subst {g : Nat → Option Mi.D} (fl : FLe F' F'') (hg : ∀ (k : Nat) a d', α'[k]? = some a → g k = some d' → Rp K T α F'' d' (.ref a)) : ∀ (ds ds' : List Mi.D) (vs : List V), Mi.D.substs g ds = some ds' → Rps K T α' F' ds vs → Rps K T α F'' ds' vs
  | [], _, _, e, r => by cases e; exact r
  | d :: ds, ds', _, u, r => by
    obtain ⟨v, s, e, p, q⟩ := r
    simp only [Mi.D.substs, Option.bind_eq_some_iff, Option.map_eq_some_iff] at u
    obtain ⟨x, u1, xs, u2, rfl⟩ := u
    exact ⟨v, s, e, Rp.subst fl hg d x v u1 p, Rps.subst fl hg ds xs s u2 q⟩
end
def dropped (F H : Hp) (β : List Addr) : Hp := fun b => if b ∈ β then H b else F b
theorem look_ok {n : Nat} (rc : RC K T α' F' cs' H') (fl : FLe F' F'') (hn : ∀ (k : Nat) a, k < n → α'[k]? = some a → α[k]? = some a) (hd : ∀ (k : Nat) a, n ≤ k → α'[k]? = some a → F'' a = H' a) :
    ∀ (f k : Nat) (a : Addr) (d' : Mi.D), α'[k]? = some a → Mi.look n cs' f k = some d' → Rp K T α F'' d' (.ref a) := by
  intro f
  induction f with
  | zero =>
    intro k a d' ea u
    unfold Mi.look at u
    by_cases hk : k < n
    · rw [if_pos hk] at u
      cases u
      exact ⟨a, hn k a hk ea, rfl⟩
    · rw [if_neg hk] at u
      cases u
  | succ f ih =>
    intro k a d' ea u
    unfold Mi.look at u
    by_cases hk : k < n
    · rw [if_pos hk] at u
      cases u
      exact ⟨a, hn k a hk ea, rfl⟩
    · rw [if_neg hk] at u
      cases ec : cs'[k]? with
      | none => rw [ec] at u; cases u
      | some c =>
        rw [ec] at u
        have u : Mi.Cell.subst (Mi.look n cs' f) c = some d' := u
        have hF := hd k a (by omega) ea
        have ok := rc.ok k a c ea ec
        cases c with
        | lst xs =>
          obtain ⟨vs, e, q⟩ := ok
          simp only [Mi.Cell.subst, Option.map_eq_some_iff] at u
          obtain ⟨ys, u1, rfl⟩ := u
          exact ⟨a, vs, rfl, hF.trans e, Rps.subst fl ih xs ys vs u1 q⟩
        | dct ks ws => cases u
        | lck ks ws => cases u
        | tdc ks ws => cases u
        | obj c fs =>
          obtain ⟨C, dx, nm, gs, t, e, k', q⟩ := ok
          simp only [Mi.Cell.subst, Option.map_eq_some_iff] at u
          obtain ⟨ys, u1, rfl⟩ := u
          exact ⟨a, C, dx, nm, gs, rfl, t, hF.trans e, k', Rps.subst fl ih fs ys _ u1 q⟩
theorem FLe.of_out (h : ∀ a, F' a ≠ none → F'' a = F' a) : FLe F' F'' := ⟨fun a u r => by
  rcases r with r | ⟨o, r⟩
  · exact .inl ((h a (by rw [r]; exact fun z => nomatch z)).trans r)
  · exact .inr ⟨o, (h a (by rw [r]; exact fun z => nomatch z)).trans r⟩, fun a o r _ _ => (h a (by rw [r]; exact fun z => nomatch z)).trans r⟩
theorem pop_ok (rc : RC K T α F cs H) (nx : Nx α F H α' F' H') (rc' : RC K T α' F' cs' H') (hp : Mi.popOk cs.length cs cs' = true) :
    ∃ F'', Nx α F H α F'' H' ∧ RC K T α F'' (cs'.take cs.length) H' ∧ FLe F' F'' ∧ (∀ (k : Nat) a, k < cs.length → α'[k]? = some a → α[k]? = some a) ∧ ∀ (k : Nat) a, cs.length ≤ k → α'[k]? = some a → F'' a = H' a := by
  obtain ⟨β, rfl⟩ := nx.al
  have hl : α.length = cs.length := rc.len
  have nd := rc'.nd
  have hdis : ∀ a, a ∈ α → a ∉ β := fun a h1 h2 => (List.nodup_append.mp nd).2.2 a h1 a h2 rfl
  have keepF : ∀ a, F' a ≠ none → dropped F' H' β a = F' a := fun a h => by
    unfold dropped
    split
    · cases e : F' a with
      | none => exact absurd e h
      | some o => exact rc'.same _ _ e
    · rfl
  have fl : FLe F' (dropped F' H' β) := .of_out keepF
  have hget : ∀ (k : Nat) a, k < cs.length → (α ++ β)[k]? = some a → α[k]? = some a := fun k a hk e => by
    rw [List.getElem?_append_left (by omega)] at e
    exact e
  refine ⟨dropped F' H' β, ⟨⟨List.prefix_rfl, nx.fl.trans fl⟩, fun b o h1 h2 h3 => ?_, nx.dom⟩, ⟨fun b o e => ?_, ?_, (List.nodup_append.mp nd).1, fun a ha => ?_, fun k a c h1 h2 => ?_⟩, fl, hget, fun k a hk e => ?_⟩
  · obtain ⟨q1, q2, q3⟩ := nx.fr b o h1 h2 h3
    refine ⟨q1, ?_, h3⟩
    unfold dropped
    rw [if_neg (fun z => q3 (List.mem_append_right _ z))]
    exact q2
  · unfold dropped at e
    by_cases hb : b ∈ β
    · rw [if_pos hb] at e
      exact e
    · rw [if_neg hb] at e
      exact rc'.same _ _ e
  · have := rc'.len
    rw [List.length_append] at this
    rw [List.length_take]
    omega
  · unfold dropped
    rw [if_neg (hdis a ha)]
    exact rc'.out a (List.mem_append_left _ ha)
  · have hk : k < cs.length := by rw [← hl]; exact (List.getElem?_eq_some_iff.mp h1).1
    rw [List.getElem?_take_of_lt hk] at h2
    have h3 : (α ++ β)[k]? = some a := by
      rw [List.getElem?_append_left (by omega)]
      exact h1
    have ok := rc'.ok k a c h3 h2
    have hu : c.under cs.length = true := by
      have hpk := List.all_eq_true.mp hp k (List.mem_range.mpr hk)
      rw [Bool.or_eq_true] at hpk
      rcases hpk with q | q
      · rw [eqCell_of q] at h2
        rw [← hl]
        exact (rc.ok k a c h1 h2).under
      · rw [h2] at q
        exact q
    exact ok.cut fl cs.length hget hu
  · unfold dropped
    rw [if_pos]
    rw [List.getElem?_append_right (by omega)] at e
    exact List.mem_of_getElem? e
theorem spM_pop {f : Mi.Fn} (vs : List V) (H : Hp) (Q : VK) (E : XK) (h : spM K T (Mi.popped f) vs H Q E) : spM K T f vs H Q E := by
  obtain ⟨α, F, cs, ds, rc, r, h⟩ := h
  refine ⟨α, F, cs, ds, rc, r, ?_⟩
  unfold Mi.popped at h
  cases e : f ds cs with
  | none => rw [e] at h; exact h.elim
  | some o =>
    rw [e] at h
    cases o with
    | v d cs' =>
      intro α' F' H' nx rc' v rv
      dsimp only at h
      by_cases hp : Mi.popOk cs.length cs cs' = true
      · rw [if_pos hp] at h
        obtain ⟨F'', nx2, rc2, fl, g1, g2⟩ := pop_ok rc nx rc' hp
        cases ed : Mi.frozen cs.length cs' d with
        | none => rw [ed] at h; exact h.elim
        | some d' =>
          rw [ed] at h
          exact h α F'' H' nx2 rc2 v (Rp.subst fl (fun k a d'' h1 h2 => look_ok rc' fl g1 g2 _ k a d'' h1 h2) d d' v ed rv)
      · rw [if_neg hp] at h
        exact h.elim
    | x c cs' =>
      intro α' F' H' C nm nx rc' t
      dsimp only at h
      by_cases hp : Mi.popOk cs.length cs cs' = true
      · rw [if_pos hp] at h
        obtain ⟨F'', nx2, rc2, fl, g1, g2⟩ := pop_ok rc nx rc' hp
        exact h α F'' H' C nm nx2 rc2 t
      · rw [if_neg hp] at h
        exact h.elim
end

section
variable {X : Cx} {T : Tab} {W : WX} {k : Nat} {f C : Addr} {fd : FuncData} {ps : List Str} {g : Mi.Fn} {x m : Str} {p pos apos : Pos} {e o : Expr} {es : List Expr} {l : Mi.EL} {ea : Mi.E}
theorem Out.at {K : PySem.W.Frag} {A : Type} {σ : L2.St} {α F H} {mm : Option (Mi.R A)} {kk : List Addr → Hp → Mi.Cs → Hp → A → Prop} (h : Out K T W σ α F H mm kk) : Out K T (fun c d _ H => WE W σ c d H) [] α F H mm kk := by
  match mm, h with
  | some (.v a cs), h => exact h
  | some (.x c cs), h => exact h
theorem FnOk.pop {P : Program} {w : World} {K : PySem.W.Frag} {mg : Str → Option Value} {base : Heap} {CX : CXT} (F : FnOk P w K mg base CX k f fd ps (spM K T g)) : FnOk P w K mg base CX k f fd ps (spM K T (Mi.popped g)) := F.imp spM_pop
theorem ma_call {K : PySem.W.Frag} (σ : L2.St) (H : Hp) (Q : VK) (h : MV K T W (Mi.call g l) σ H Q) : tCallS (spM K T g) (WE W) (MA K T W l) σ H Q := by
  obtain ⟨α, F, env, cs, rc, ev, h⟩ := h
  exact ⟨α, F, env, cs, rc, ev, h.bnd.mono fun α1 F1 cs1 H1 xs lt1 rc1 o1 vs r1 => ⟨α1, F1, cs1, xs, rc1, r1, o1.at⟩⟩
theorem br_call (F : FnOk X.prog X.w X.K X.mg X.base (L2.CX X.prog X.w) k f fd ps (spM X.K T g)) (hr : Room k X.A) (hg : Gl X x) (hm : X.mg x = some (.ref f)) (hk : PySem.W.keepIn X.K (.ref f) = true) (hb : Binds X.K fd ps []) (tk : Takes X W) (ha : PA X (e :: es) (MA X.K T W l))
    (hdb : (x == ("__debug__" : Str)) = false := by decide) (he : starEach (e :: es) X.env = (false, eval e X.env) :: starEach es X.env := by rfl) (hpl : (backTo pos (starEach es X.env)).any (·.1) = false := by rfl) : PE X (.Call (.Name x p) (e :: es) [] pos) (MV X.K T W (Mi.call g l)) :=
  PE.imp (pe_callS F hr hg hm hk hb (fun σ => passAt tk σ) ha hdb he hpl) ma_call
end

section
variable {P : Program} {w : World} {K : PySem.W.Frag} {T : Tab} {mg : Str → Option Value} {base : Heap}
theorem rps_start {α F} {ds : List Mi.D} {vs : List V} (r : Rps K T α F ds vs) (n : Nat) : Ev K T α F (ds.map some ++ List.replicate n none) (vs.map some ++ List.replicate n none) := by
  refine ⟨by simp [r.length], fun i d e => ?_⟩
  by_cases hi : i < ds.length
  · rw [List.getElem?_append_left (by simpa using hi), List.getElem?_map] at e
    cases q : ds[i]? with
    | none => rw [q] at e; cases e
    | some d' =>
      rw [q] at e
      cases e
      obtain ⟨v, hv, rv⟩ := r.get q
      refine ⟨v, ?_, rv⟩
      rw [List.getElem?_append_left (by simpa [r.length] using hi), List.getElem?_map, hv]
      rfl
  · rw [List.getElem?_append_right (by simpa using hi), List.getElem?_replicate] at e
    split at e <;> cases e
theorem br_def {x qual : Str} {st : Stmt} {f : Addr} {fd : FuncData} {N ps : List Str} {k : Nat} {b : Mi.S} (F : Fun K x qual st f fd) (S : FnScope N ps (defScope st))
    (hbody : ∀ (cdv : Value) (A : Around) (outer : List Env) (s : Shared) (H : Hp) (E : XK), Room k (A.deeper (envOfC qual (defScope st) s.heap.objs.size f cdv)) →
      PSs (cxOf (L2.CX P w) P w K mg base N qual (defScope st) f cdv A outer s H E) (defBody st) (MS K T (fun cls d _ H => E cls d H) b)) :
    FnOk P w K mg base (L2.CX P w) (k + 1) f fd ps (spM K T (Mi.fn ps.length N.length b)) := by
  have hlen : ∀ vs H Q E, spM K T (Mi.fn ps.length N.length b) vs H Q E → vs.length = ps.length := fun vs H Q E h => by
    obtain ⟨α, F, cs, ds, rc, r, h⟩ := h
    rw [r.length]
    by_cases hl : ds.length = ps.length
    · exact hl
    · unfold Mi.fn at h
      rw [if_neg hl] at h
      exact h.elim
  refine F.okX S hlen fun cdv A outer s H vs Q E hr h => ⟨_, hbody cdv A outer s H E hr, ?_⟩
  have hl := hlen vs H Q E h
  obtain ⟨α, F, cs, ds, rc, r, h⟩ := h
  refine ⟨α, F, _, cs, rc, rps_start r (N.length - vs.length), ?_⟩
  have hd : ds.length = ps.length := by rw [← r.length]; exact hl
  unfold Mi.fn at h
  rw [if_pos hd] at h
  rw [hl]
  cases e : b (ds.map some ++ List.replicate (N.length - ps.length) none) cs with
  | none => rw [e] at h; exact h.elim
  | some o =>
    rw [e] at h
    cases o with
    | nx env' cs' => exact fun α' F' H' σ' nx rc' _ => h α' F' H' nx rc' .non rfl
    | rt d cs' => exact fun α' F' H' v nx rc' rv => h α' F' H' nx rc' v rv
    | bk env' cs' => exact h.elim
    | ct env' cs' => exact h.elim
    | x c env' cs' => exact fun α' F' H' σ' C nm nx rc' _ t => h α' F' H' C nm nx rc' t
end
end Br
end
section
set_option Elab.async false
set_option linter.all false
set_option maxRecDepth 100000
set_option maxHeartbeats 4000000
namespace Br
open PySem PySem.Spec PyProof.Rows L2
section
variable {X : Cx} {T : Tab} {W : WX} {a b c o tg : Expr} {ea eb ec : Mi.E} {l : Mi.EL} {es rest : List Expr} {pos apos cpos p p2 : Pos}
def MO (K : PySem.W.Frag) (T : Tab) (W : WX) (e : Option Mi.E) : TO := fun σ H Q => ∃ α F env cs, RC K T α F cs H ∧ Ev K T α F env σ ∧ Out K T W σ α F H (Mi.partE e env cs) fun _ _ _ H' i => Q i H'
theorem PO.imp {X : Cx} {e : Option Expr} {t t' : TO} (h : PO X e t) (i : ∀ σ H Q, t' σ H Q → t σ H Q) : PO X e t' := ⟨fun pins s σ H Q I q => h.run pins s σ H Q I (i σ H Q q)⟩
theorem bo_none : PO X none (MO X.K T W none) := PO.imp po_none fun σ H Q h => by
  obtain ⟨α, F, env, cs, rc, ev, h⟩ := h
  exact h.v (Nx.refl _ _ _) rc
theorem bo_some {e : Expr} (h : PE X e (MV X.K T W ea)) : PO X (some e) (MO X.K T W (some ea)) := PO.imp (po_some h) fun σ H Q h => by
  obtain ⟨α, F, env, cs, rc, ev, h⟩ := h
  refine ⟨α, F, env, cs, rc, ev, h.bnd.mono fun α1 F1 cs1 H1 x lt1 rc1 o1 v r1 => ?_⟩
  obtain ⟨z, e, q⟩ := o1.out rc1
  unfold Mi.partOf at e
  split at e
  · rename_i h0
    cases h0
  · rename_i i h0
    cases h0
    cases e
    exact ⟨i, r1, q⟩
  · cases e
theorem bl_cut {lo hi : Option Expr} {el eh : Option Mi.E} (ha : PE X a (MV X.K T W ea)) (hl : PO X lo (MO X.K T W el)) (hh : PO X hi (MO X.K T W eh)) : PE X (.Subscript a (.Slice lo hi none p2) pos) (ML X.K T W (Mi.lCut ea el eh)) :=
  PE.imp (pe_slice sl_list ha hl hh) fun σ H Q h => by
    obtain ⟨α, F, env, cs, rc, ev, h⟩ := h
    refine ⟨α, F, env, cs, rc, ev, h.bnd.mono fun α1 F1 cs1 H1 x lt1 rc1 o1 v r1 => ?_⟩
    refine ⟨α1, F1, env, cs1, rc1, ev.mono lt1.toLt, o1.bnd.mono fun α2 F2 cs2 H2 i lt2 rc2 o2 => ?_⟩
    refine ⟨α2, F2, env, cs2, rc2, ev.mono (lt1.trans lt2).toLt, o2.bnd.mono fun α3 F3 cs3 H3 j lt3 rc3 o3 => ?_⟩
    obtain ⟨xs, e, _⟩ := o3.out rc3
    rw [e] at o3
    cases e2 : Mi.lstOf cs3 x with
    | none => rw [e2] at e; cases e
    | some ys =>
      rw [e2] at e
      cases e
      obtain ⟨q, vs, rfl, s, r⟩ := lstOf_of rc3 (Rp.mono (lt2.trans lt3).toLt _ _ r1) e2
      refine ⟨q, vs, rfl, s, fun p hp => ?_⟩
      obtain ⟨hf, ha⟩ := rc3.new_out hp
      exact o3.v (Nx.alloc hp) (rc3.alloc hp) p _ (((lt1.trans lt2).trans lt3).dom p hp) upd_same hf ha r.cut
theorem bl_back {k p1 p3 p4} (ha : PE X a (MV X.K T W ea)) : PE X (.Subscript a (.Slice none none (some (.UnaryOp .USub (.Constant (.int 1) k p1) p3)) p4) pos) (ML X.K T W (Mi.lBack ea)) := PE.imp (pe_revL ha) fun σ H Q h => by
  obtain ⟨α, F, env, cs, rc, ev, h⟩ := h
  refine ⟨α, F, env, cs, rc, ev, h.bnd.mono fun α1 F1 cs1 H1 x lt1 rc1 o1 v r1 => ?_⟩
  obtain ⟨xs, e, _⟩ := o1.out rc1
  rw [e] at o1
  cases e2 : Mi.lstOf cs1 x with
  | none => rw [e2] at e; cases e
  | some ys =>
    rw [e2] at e
    cases e
    obtain ⟨q, vs, rfl, s, r⟩ := lstOf_of rc1 r1 e2
    refine ⟨q, vs, rfl, s, fun p hp => ?_⟩
    obtain ⟨hf, ha⟩ := rc1.new_out hp
    exact o1.v (Nx.alloc hp) (rc1.alloc hp) p _ (lt1.dom p hp) upd_same hf ha r.reverse
theorem bl_add (ha : PE X a (MV X.K T W ea)) (hb : PE X b (MV X.K T W eb)) : PE X (.BinOp a .Add b pos) (ML X.K T W (Mi.lAdd ea eb)) := PE.imp (pe_op op_cat ha hb) fun σ H Q h => by
  obtain ⟨α, F, env, cs, rc, ev, h⟩ := h
  refine ⟨α, F, env, cs, rc, ev, h.bnd.mono fun α1 F1 cs1 H1 x lt1 rc1 o1 v r1 => ?_⟩
  refine ⟨α1, F1, env, cs1, rc1, ev.mono lt1.toLt, o1.bnd.mono fun α2 F2 cs2 H2 y lt2 rc2 o2 w r2 => ?_⟩
  obtain ⟨xs, e, _⟩ := o2.out rc2
  rw [e] at o2
  simp only [Option.bind_eq_some_iff] at e
  obtain ⟨xs1, e1, ys1, e2, e3⟩ := e
  by_cases hl : xs1.length + ys1.length ≤ Mi.SIZE
  · rw [if_pos hl] at e3
    cases e3
    obtain ⟨q, vs, rfl, s, r⟩ := ownOf_of rc2 (Rp.mono lt2.toLt _ _ r1) e1
    obtain ⟨q2, vs2, rfl, s2, r2⟩ := ownOf_of rc2 r2 e2
    refine ⟨q, q2, vs, vs2, rfl, rfl, s, s2, by rw [r.length, r2.length, ← size_eq]; exact hl, fun p hp => ?_⟩
    obtain ⟨hf, ha⟩ := rc2.new_out hp
    exact o2.v (Nx.alloc hp) (rc2.alloc hp) p _ ((lt1.trans lt2).dom p hp) upd_same hf ha (r.append r2)
  · rw [if_neg hl] at e3
    cases e3
theorem Rps.rep {K : PySem.W.Frag} {α F} {ds : List Mi.D} {vs : List V} (r : Rps K T α F ds vs) : ∀ n : Nat, Rps K T α F (List.flatten (List.replicate n ds)) (List.flatten (List.replicate n vs))
  | 0 => rfl
  | n + 1 => by
    rw [List.replicate_succ, List.replicate_succ, List.flatten_cons, List.flatten_cons]
    exact r.append (Rps.rep r n)
theorem bl_mul (ha : PE X a (MV X.K T W ea)) (hb : PE X b (MV X.K T W eb)) : PE X (.BinOp a .Mult b pos) (ML X.K T W (Mi.lMul ea eb)) := PE.imp (pe_op op_rep ha hb) fun σ H Q h => by
  obtain ⟨α, F, env, cs, rc, ev, h⟩ := h
  refine ⟨α, F, env, cs, rc, ev, h.bnd.mono fun α1 F1 cs1 H1 x lt1 rc1 o1 v r1 => ?_⟩
  refine ⟨α1, F1, env, cs1, rc1, ev.mono lt1.toLt, o1.bnd.mono fun α2 F2 cs2 H2 y lt2 rc2 o2 w r2 => ?_⟩
  obtain ⟨xs, e, _⟩ := o2.out rc2
  rw [e] at o2
  simp only [Option.bind_eq_some_iff] at e
  obtain ⟨xs1, e1, e3⟩ := e
  split at e3
  · rename_i n
    by_cases hl : 0 ≤ n ∧ xs1.length * n.toNat ≤ Mi.SIZE ∧ n < 16777216
    · rw [if_pos hl] at e3
      cases e3
      obtain ⟨q, vs, rfl, s, r⟩ := ownOf_of rc2 (Rp.mono lt2.toLt _ _ r1) e1
      refine ⟨q, n, vs, rfl, r2, s, by omega, by omega, by rw [r.length, ← size_eq]; exact hl.2.1, fun p hp => ?_⟩
      obtain ⟨hf, ha⟩ := rc2.new_out hp
      exact o2.v (Nx.alloc hp) (rc2.alloc hp) p _ ((lt1.trans lt2).dom p hp) upd_same hf ha (r.rep _)
    · rw [if_neg hl] at e3
      cases e3
  · cases e3
def tyN : Mi.Ty → String
  | .int => "int"
  | .bool => "bool"
  | .str => "str"
  | .list => "list"
  | .tuple => "tuple"
theorem tyX_list {K : PySem.W.Frag} {H : Hp} {a : Addr} {vs : List V} (h : SqL K H a vs) : TyX K H (.ref a) (.type "list") := by
  rcases h with (h | ⟨o, h⟩) | ⟨o, its, n, h, hc, _⟩
  · exact .base (.lst h)
  · exact .base (.frz h)
  · exact .kList h hc
theorem tyX_tup {K : PySem.W.Frag} {H : Hp} {a : Addr} {vs : List V} (h : SqT K H a vs) : TyX K H (.ref a) (.type "tuple") := by
  rcases h with (h | ⟨o, h⟩) | ⟨o, its, n, h, hc, _⟩
  · exact .base (.tup h)
  · exact .fTuple h
  · exact .kTuple h hc
theorem isa_of {K : PySem.W.Frag} {α F cs H x v b} {t : Mi.Ty} (rc : RC K T α F cs H) (rx : Rp K T α F x v) (h : Mi.isaT cs x (some t) = some b) : ∃ n : String, TyX K H v (.type n) ∧ kitB n (tyN t) = some b := by
  cases x with
  | non =>
    have e : v = .non := rx
    subst e
    refine ⟨"NoneType", .base .non, ?_⟩
    cases t <;> cases h <;> decide +kernel
  | bl k =>
    have e : v = .bl k := rx
    subst e
    refine ⟨"bool", .base (.bl k), ?_⟩
    cases t <;> cases h <;> decide +kernel
  | int k =>
    have e : v = .int k := rx
    subst e
    refine ⟨"int", .base (.int k), ?_⟩
    cases t <;> cases h <;> decide +kernel
  | str k =>
    have e : v = .str k := rx
    subst e
    refine ⟨"str", .base (.str k), ?_⟩
    cases t <;> cases h <;> decide +kernel
  | tup xs =>
    obtain ⟨a, vs, rfl, s, r⟩ := rx
    refine ⟨"tuple", tyX_tup (same_sqT rc.same s), ?_⟩
    cases t <;> cases h <;> decide +kernel
  | lst xs =>
    obtain ⟨a, vs, rfl, s, r⟩ := rx
    refine ⟨"list", tyX_list (.of (rc.same _ _ s)), ?_⟩
    cases t <;> cases h <;> decide +kernel
  | fro xs =>
    obtain ⟨a, vs, rfl, s, r⟩ := rx
    refine ⟨"list", tyX_list (rc.same.seq s), ?_⟩
    cases t <;> cases h <;> decide +kernel
  | dct ks ws => exact rx.elim
  | obj c fs => cases h
  | cell k =>
    obtain ⟨a, ea, rfl⟩ := rx
    cases hc : cs[k]? with
    | none =>
      simp only [Mi.isaT, hc] at h
      cases t <;> cases h
    | some c =>
      have ok := rc.ok k a c ea hc
      cases c with
      | lst xs =>
        obtain ⟨vs, e, _⟩ := ok
        refine ⟨"list", .base (.lst e), ?_⟩
        simp only [Mi.isaT, hc] at h
        cases t <;> cases h <;> decide +kernel
      | dct ks ws =>
        obtain ⟨kvs, e, _⟩ := ok
        refine ⟨"dict", .base (.dK e), ?_⟩
        simp only [Mi.isaT, hc] at h
        cases t <;> cases h <;> decide +kernel
      | obj d fs =>
        simp only [Mi.isaT, hc] at h
        cases t <;> cases h
      | lck ks ws =>
        simp only [Mi.isaT, hc] at h
        cases t <;> cases h
      | tdc ks ws =>
        simp only [Mi.isaT, hc] at h
        cases t <;> cases h
theorem br_isa {t : Mi.Ty} {x2 : Str} (hx : bootBuiltins x2 = some (.type (tyN t))) (hg : Gl X "isinstance") (hm : X.mg "isinstance" = none) (hg2 : Gl X x2) (hm2 : X.mg x2 = none) (ha : PE X a (MV X.K T W ea)) (hn : x2 ≠ "__name__" := by decide) (hd : (x2 == ("__debug__" : Str)) = false := by decide)
    (na : starEach [a, .Name x2 p2] X.env = (false, eval a X.env) :: starEach [.Name x2 p2] X.env := by rfl) (nb : starEach [.Name x2 p2] X.env = (false, eval (.Name x2 p2) X.env) :: starEach [] X.env := by rfl) (npl : (backTo pos (starEach [.Name x2 p2] X.env)).any (·.1) = false := by rfl) :
    PE X (.Call (.Name "isinstance" p) [a, .Name x2 p2] [] pos) (MV X.K T W (Mi.e1 (Mi.oIsa t) ea)) := by
  refine PE.imp (pe_callB call_isi hg hm boot_isinstance (pa_cons ha (pa_cons (pe_bltn (v := .ty (tyN t)) hg2 hm2 hx rfl hn hd) pa_nil nb) na) (he := na) (hpl := npl)) fun σ H Q h => ?_
  obtain ⟨α, F, env, cs, rc, ev, h⟩ := h
  refine ⟨α, F, env, cs, rc, ev, h.bnd.mono fun α1 F1 cs1 H1 x lt1 rc1 o1 v r1 => ?_⟩
  obtain ⟨z, e, q⟩ := o1.out rc1
  unfold Mi.oIsa at e
  cases e2 : Mi.isaT cs1 x (some t) with
  | none => rw [e2] at e; cases e
  | some k =>
    rw [e2] at e
    cases e
    obtain ⟨n, ty, kb⟩ := isa_of rc1 r1 e2
    exact ⟨v, .ty (tyN t), _, _, k, rfl, .ty _, ty, kit_ty kb, q _ rfl⟩
theorem bools_of {K : PySem.W.Frag} {α F} : ∀ {xs : List Mi.D} {vs : List V} {bs : List Bool}, Rps K T α F xs vs → Mi.boolsOf xs = some bs → vs = bs.map V.bl
  | [], _, _, r, e => by
    cases e
    exact r
  | x :: xs, _, bs, r, e => by
    obtain ⟨v, s, rfl, r1, r2⟩ := r
    cases x <;> simp only [Mi.boolsOf, reduceCtorEq, Option.map_eq_some_iff] at e
    obtain ⟨cs, e1, rfl⟩ := e
    have ev : v = .bl _ := r1
    rw [ev, bools_of r2 e1]
    rfl
theorem o_all {K : PySem.W.Frag} : Op1 K T (fun v H Q => rAll K [v] H Q) Mi.oAll := by
  intro α F cs H x z v rc rx e Q q
  simp only [Mi.oAll, Option.map_eq_some_iff, Option.bind_eq_some_iff] at e
  obtain ⟨bs, ⟨xs, e1, e2⟩, rfl⟩ := e
  obtain ⟨a, vs, rfl, s, r⟩ := lstOf_of rc rx e1
  rw [bools_of r e2] at s
  exact ⟨a, bs, rfl, s, q α F H _ (Nx.refl _ _ _) rc rfl⟩
theorem o_any {K : PySem.W.Frag} : Op1 K T (fun v H Q => rAny K [v] H Q) Mi.oAny := by
  intro α F cs H x z v rc rx e Q q
  simp only [Mi.oAny, Option.map_eq_some_iff, Option.bind_eq_some_iff] at e
  obtain ⟨bs, ⟨xs, e1, e2⟩, rfl⟩ := e
  obtain ⟨a, vs, rfl, s, r⟩ := lstOf_of rc rx e1
  rw [bools_of r e2] at s
  exact ⟨a, bs, rfl, s, q α F H _ (Nx.refl _ _ _) rc rfl⟩
end
mutual
def toPy : Mi.D → PyData
  | .int i => .int i
  | .str x => .str x
  | .tup xs => .tuple (toPys xs)
  | .lst xs => .list (toPys xs)
  | _ => .none
def toPys : List Mi.D → List PyData
  | [] => []
  | x :: xs => toPy x :: toPys xs
end
section
variable {K : PySem.W.Frag} {T : Tab} {α : List Addr} {F H : Hp}
mutual
theorem dp_of (sm : Same F H) : ∀ (d : Mi.D) (v : V), d.plain = true → Rp K T α F d v → Dp K H v (toPy d)
  | .non, v, _, r => by
    have e : v = .non := r
    subst e
    exact .non
  | .int i, v, _, r => by
    have e : v = .int i := r
    subst e
    exact .int i
  | .str x, v, _, r => by
    have e : v = .str x := r
    subst e
    exact .str x
  | .tup xs, v, p, r => by
    obtain ⟨a, vs, rfl, s, q⟩ := r
    exact .tup (same_sqT sm s) (dps_of sm xs vs (by simpa [Mi.D.plain] using p) q)
  | .lst xs, v, p, r => by
    obtain ⟨a, vs, rfl, s, q⟩ := r
    exact .lst (.of (sm _ _ s)) (dps_of sm xs vs (by simpa [Mi.D.plain] using p) q)
  | .bl _, _, p, _ => by simp [Mi.D.plain] at p
  | .fro _, _, p, _ => by simp [Mi.D.plain] at p
  | .dct _ _, _, p, _ => by simp [Mi.D.plain] at p
  | .obj _ _, _, p, _ => by simp [Mi.D.plain] at p
  | .cell _, _, p, _ => by simp [Mi.D.plain] at p
theorem dps_of (sm : Same F H) : ∀ (ds : List Mi.D) (vs : List V), Mi.D.plains ds = true → Rps K T α F ds vs → DpAll K H vs (toPys ds)
  | [], vs, _, r => by
    have e : vs = [] := r
    subst e
    exact .nil
  | d :: ds, _, p, r => by
    obtain ⟨v, s, rfl, r1, r2⟩ := r
    simp only [Mi.D.plains, Bool.and_eq_true] at p
    exact .cons (dp_of sm d v p.1 r1) (dps_of sm ds s p.2 r2)
end
mutual
theorem lay_of : ∀ d : Mi.D, d.plain = true → (toPy d).canLay0 = true
  | .non, _ => by simp [toPy, PyData.canLay0]
  | .int i, _ => by simp [toPy, PyData.canLay0]
  | .str x, p => by
    simp only [Mi.D.plain] at p
    simp only [toPy, PyData.canLay0, PyData.strOk]
    exact p
  | .tup xs, p => by
    simp only [toPy, PyData.canLay0]
    exact lays_of xs (by simpa [Mi.D.plain] using p)
  | .lst xs, p => by
    simp only [toPy, PyData.canLay0]
    exact lays_of xs (by simpa [Mi.D.plain] using p)
  | .bl _, p => by simp [Mi.D.plain] at p
  | .fro _, p => by simp [Mi.D.plain] at p
  | .dct _ _, p => by simp [Mi.D.plain] at p
  | .obj _ _, p => by simp [Mi.D.plain] at p
  | .cell _, p => by simp [Mi.D.plain] at p
theorem lays_of : ∀ ds : List Mi.D, Mi.D.plains ds = true → PyData.canLayAll0 (toPys ds) = true
  | [], _ => by simp [toPys, PyData.canLayAll0]
  | d :: ds, p => by
    simp only [Mi.D.plains, Bool.and_eq_true] at p
    simp only [toPys, PyData.canLayAll0, lay_of d p.1, lays_of ds p.2, Bool.and_self]
end
mutual
theorem depth_of : ∀ d : Mi.D, d.plain = true → (toPy d).depth = d.depth
  | .non, _ => by simp [toPy, PyData.depth, Mi.D.depth]
  | .int i, _ => by simp [toPy, PyData.depth, Mi.D.depth]
  | .str x, p => by simp [toPy, PyData.depth, Mi.D.depth]
  | .tup xs, p => by
    simp only [toPy, PyData.depth, Mi.D.depth, depths_of xs (by simpa [Mi.D.plain] using p)]
  | .lst xs, p => by
    simp only [toPy, PyData.depth, Mi.D.depth, depths_of xs (by simpa [Mi.D.plain] using p)]
  | .bl _, p => by simp [Mi.D.plain] at p
  | .fro _, p => by simp [Mi.D.plain] at p
  | .dct _ _, p => by simp [Mi.D.plain] at p
  | .obj _ _, p => by simp [Mi.D.plain] at p
  | .cell _, p => by simp [Mi.D.plain] at p
theorem depths_of : ∀ ds : List Mi.D, Mi.D.plains ds = true → PyData.depthAll (toPys ds) = Mi.D.depths ds
  | [], _ => by simp [toPys, PyData.depthAll, Mi.D.depths]
  | d :: ds, p => by
    simp only [Mi.D.plains, Bool.and_eq_true] at p
    simp only [toPys, PyData.depthAll, Mi.D.depths, depth_of d p.1, depths_of ds p.2]
end
theorem shaped_of {d : Mi.D} (h : d.fit = true) : SeqAt.shaped (toPy d) = true := by
  unfold Mi.D.fit at h
  rw [Bool.and_eq_true] at h
  unfold SeqAt.shaped
  rw [lay_of d h.1, depth_of d h.1, h.2]
  rfl
mutual
theorem eqv_of : ∀ d e : Mi.D, d.plain = true → e.plain = true → PyData.eqv (toPy d) (toPy e) = decide (d = e)
  | .non, e, _, q => by cases e <;> simp [Mi.D.plain] at q <;> simp [toPy, PyData.eqv]
  | .int i, e, _, q => by
    cases e <;> simp [Mi.D.plain] at q <;> simp [toPy, PyData.eqv]
    exact Bool.beq_eq_decide_eq _ _
  | .str x, e, _, q => by
    cases e <;> simp [Mi.D.plain] at q <;> simp [toPy, PyData.eqv]
    exact Bool.beq_eq_decide_eq _ _
  | .tup xs, e, p, q => by
    cases e <;> simp [Mi.D.plain] at q <;> simp [toPy, PyData.eqv]
    exact eqvs_of xs _ (by simpa [Mi.D.plain] using p) q
  | .lst xs, e, p, q => by
    cases e <;> simp [Mi.D.plain] at q <;> simp [toPy, PyData.eqv]
    exact eqvs_of xs _ (by simpa [Mi.D.plain] using p) q
  | .bl _, _, p, _ => by simp [Mi.D.plain] at p
  | .fro _, _, p, _ => by simp [Mi.D.plain] at p
  | .dct _ _, _, p, _ => by simp [Mi.D.plain] at p
  | .obj _ _, _, p, _ => by simp [Mi.D.plain] at p
  | .cell _, _, p, _ => by simp [Mi.D.plain] at p
theorem eqvs_of : ∀ ds es : List Mi.D, Mi.D.plains ds = true → Mi.D.plains es = true → PyData.eqvAll (toPys ds) (toPys es) = decide (ds = es)
  | [], [], _, _ => by simp [toPys, PyData.eqvAll]
  | [], _ :: _, _, _ => by simp [toPys, PyData.eqvAll]
  | _ :: _, [], _, _ => by simp [toPys, PyData.eqvAll]
  | d :: ds, e :: es, p, q => by
    simp only [Mi.D.plains, Bool.and_eq_true] at p q
    simp only [toPys, PyData.eqvAll, eqv_of d e p.1 q.1, eqvs_of ds es p.2 q.2]
    by_cases h1 : d = e <;> by_cases h2 : ds = es <;> simp [h1, h2]
end
theorem frozen0_of {cs : Mi.Cs} {x d : Mi.D} {v : V} (rc : RC K T α F cs H) (rx : Rp K T α F x v) (h : Mi.frozen 0 cs x = some d) : ∃ F'', Same F'' H ∧ Rp K T [] F'' d v := by
  have keepF : ∀ a, F a ≠ none → dropped F H α a = F a := fun a hn => by
    unfold dropped
    split
    · cases e : F a with
      | none => exact absurd e hn
      | some o => exact rc.same _ _ e
    · rfl
  refine ⟨dropped F H α, fun b o e => ?_, Rp.subst (.of_out keepF) (fun k a d'' h1 h2 => look_ok (α := []) rc (.of_out keepF) (fun k a hk _ => absurd hk (Nat.not_lt_zero _)) (fun k a _ e => ?_) _ k a d'' h1 h2) x d v h rx⟩
  · unfold dropped at e
    by_cases hb : b ∈ α
    · rw [if_pos hb] at e
      exact e
    · rw [if_neg hb] at e
      exact rc.same _ _ e
  · unfold dropped
    rw [if_pos (List.mem_of_getElem? e)]
theorem o_eq : Op2 K T (rEqD K) Mi.oEq := by
  intro α F cs H x y z v w rc rx ry e Q q
  simp only [Mi.oEq, Option.bind_eq_some_iff] at e
  obtain ⟨d, e1, d2, e2, e3⟩ := e
  by_cases hf : (d.fit && d2.fit) = true
  · rw [if_pos hf] at e3
    cases e3
    rw [Bool.and_eq_true] at hf
    obtain ⟨F1, s1, r1⟩ := frozen0_of rc rx e1
    obtain ⟨F2, s2, r2⟩ := frozen0_of rc ry e2
    have p1 := (Bool.and_eq_true_iff.mp hf.1).1
    have p2 := (Bool.and_eq_true_iff.mp hf.2).1
    refine ⟨toPy d, toPy d2, dp_of s1 d v p1 r1, dp_of s2 d2 w p2 r2, shaped_of hf.1, shaped_of hf.2, q α F H _ (Nx.refl _ _ _) rc ?_⟩
    rw [eqv_of d d2 p1 p2]
    rfl
  · rw [if_neg hf] at e3
    cases e3
theorem o_ne : Op2 K T (rNeD K) Mi.oNe := by
  intro α F cs H x y z v w rc rx ry e Q q
  simp only [Mi.oNe, Option.bind_eq_some_iff] at e
  obtain ⟨d, e1, d2, e2, e3⟩ := e
  by_cases hf : (d.fit && d2.fit) = true
  · rw [if_pos hf] at e3
    cases e3
    rw [Bool.and_eq_true] at hf
    obtain ⟨F1, s1, r1⟩ := frozen0_of rc rx e1
    obtain ⟨F2, s2, r2⟩ := frozen0_of rc ry e2
    have p1 := (Bool.and_eq_true_iff.mp hf.1).1
    have p2 := (Bool.and_eq_true_iff.mp hf.2).1
    refine ⟨toPy d, toPy d2, dp_of s1 d v p1 r1, dp_of s2 d2 w p2 r2, shaped_of hf.1, shaped_of hf.2, q α F H _ (Nx.refl _ _ _) rc ?_⟩
    rw [eqv_of d d2 p1 p2]
    rfl
  · rw [if_neg hf] at e3
    cases e3
theorem any_of {d : Mi.D} (hd : d.plain = true) : ∀ es : List Mi.D, Mi.D.plains es = true → (toPys es).any (fun z => PyData.eqv z (toPy d)) = decide (d ∈ es)
  | [], _ => by simp [toPys]
  | e :: es, p => by
    simp only [Mi.D.plains, Bool.and_eq_true] at p
    simp only [toPys, List.any_cons, eqv_of e d p.1 hd, any_of hd es p.2]
    by_cases h1 : e = d
    · simp [h1]
    · have h2 : ¬ d = e := fun z => h1 z.symm
      simp [h1, h2]
theorem o_in : Op2 K T (rInD K) Mi.oIn := by
  intro α F cs H x y z v w rc rx ry e Q q
  simp only [Mi.oIn, Option.bind_eq_some_iff] at e
  obtain ⟨d, e1, d2, e2, e3⟩ := e
  split at e3
  · rename_i es
    by_cases hf : (d.fit && (Mi.D.lst es).fit) = true
    · rw [if_pos hf] at e3
      cases e3
      rw [Bool.and_eq_true] at hf
      obtain ⟨F1, s1, r1⟩ := frozen0_of rc rx e1
      obtain ⟨F2, s2, r2⟩ := frozen0_of rc ry e2
      have p1 := (Bool.and_eq_true_iff.mp hf.1).1
      have p2 := (Bool.and_eq_true_iff.mp hf.2).1
      have s3 := shaped_of hf.2
      have d3 := dp_of s2 _ w p2 r2
      simp only [toPy] at s3 d3
      refine ⟨toPy d, toPys es, dp_of s1 d v p1 r1, d3, shaped_of hf.1, s3, q α F H _ (Nx.refl _ _ _) rc ?_⟩
      rw [any_of p1 es (by simpa [Mi.D.plain] using p2)]
      rfl
    · rw [if_neg hf] at e3
      cases e3
  · cases e3
theorem o_notIn : Op2 K T (rNotInD K) Mi.oNotIn := by
  intro α F cs H x y z v w rc rx ry e Q q
  simp only [Mi.oNotIn, Option.bind_eq_some_iff] at e
  obtain ⟨d, e1, d2, e2, e3⟩ := e
  split at e3
  · rename_i es
    by_cases hf : (d.fit && (Mi.D.lst es).fit) = true
    · rw [if_pos hf] at e3
      cases e3
      rw [Bool.and_eq_true] at hf
      obtain ⟨F1, s1, r1⟩ := frozen0_of rc rx e1
      obtain ⟨F2, s2, r2⟩ := frozen0_of rc ry e2
      have p1 := (Bool.and_eq_true_iff.mp hf.1).1
      have p2 := (Bool.and_eq_true_iff.mp hf.2).1
      have s3 := shaped_of hf.2
      have d3 := dp_of s2 _ w p2 r2
      simp only [toPy] at s3 d3
      refine ⟨toPy d, toPys es, dp_of s1 d v p1 r1, d3, shaped_of hf.1, s3, q α F H _ (Nx.refl _ _ _) rc ?_⟩
      rw [any_of p1 es (by simpa [Mi.D.plain] using p2)]
      rfl
    · rw [if_neg hf] at e3
      cases e3
  · cases e3
end
end Br
end
section
set_option Elab.async false
set_option linter.all false
set_option maxRecDepth 100000
set_option maxHeartbeats 4000000
namespace Br
open PySem PySem.Spec PyProof.Rows L2
mutual
theorem like_of : ∀ d e : Mi.D, Mi.likeD d e = true → PySem.W.alike (toPy d) (toPy e) = true
  | .int _, e, h => by cases e <;> simp [Mi.likeD] at h <;> simp [toPy, PySem.W.alike]
  | .str _, e, h => by cases e <;> simp [Mi.likeD] at h <;> simp [toPy, PySem.W.alike]
  | .tup xs, e, h => by
    cases e <;> simp [Mi.likeD] at h <;> simp [toPy, PySem.W.alike]
    exact likes_of xs _ h
  | .lst xs, e, h => by
    cases e <;> simp [Mi.likeD] at h <;> simp [toPy, PySem.W.alike]
    exact likes_of xs _ h
  | .non, _, h => by simp [Mi.likeD] at h
  | .bl _, _, h => by simp [Mi.likeD] at h
  | .fro _, _, h => by simp [Mi.likeD] at h
  | .dct _ _, _, h => by simp [Mi.likeD] at h
  | .obj _ _, _, h => by simp [Mi.likeD] at h
  | .cell _, _, h => by simp [Mi.likeD] at h
theorem likes_of : ∀ ds es : List Mi.D, Mi.likeDs ds es = true → PySem.W.alikeAll (toPys ds) (toPys es) = true
  | [], _, _ => by simp [toPys, PySem.W.alikeAll]
  | _ :: _, [], _ => by simp [toPys, PySem.W.alikeAll]
  | d :: ds, e :: es, h => by
    simp only [Mi.likeDs, Bool.and_eq_true] at h
    simp only [toPys, PySem.W.alikeAll, like_of d e h.1, likes_of ds es h.2, Bool.and_self]
end
mutual
theorem lt_of : ∀ d e : Mi.D, d.plain = true → e.plain = true → Mi.likeD d e = true → PySem.W.dataLt (toPy d) (toPy e) = Mi.ltD d e
  | .int _, e, _, _, h => by
    cases e <;> simp [Mi.likeD] at h
    simp only [toPy, Mi.ltD]
    exact PySem.W.dataLt_int _ _
  | .str _, e, _, _, h => by
    cases e <;> simp [Mi.likeD] at h
    simp only [toPy, Mi.ltD]
    exact PySem.W.dataLt_str _ _
  | .tup xs, e, p, q, h => by
    cases e <;> simp [Mi.likeD] at h
    simp only [toPy, Mi.ltD]
    rw [PySem.W.dataLt_tuple]
    exact lts_of xs _ (by simpa [Mi.D.plain] using p) (by simpa [Mi.D.plain] using q) h
  | .lst xs, e, p, q, h => by
    cases e <;> simp [Mi.likeD] at h
    simp only [toPy, Mi.ltD]
    rw [PySem.W.dataLt_list]
    exact lts_of xs _ (by simpa [Mi.D.plain] using p) (by simpa [Mi.D.plain] using q) h
  | .non, _, _, _, h => by simp [Mi.likeD] at h
  | .bl _, _, _, _, h => by simp [Mi.likeD] at h
  | .fro _, _, _, _, h => by simp [Mi.likeD] at h
  | .dct _ _, _, _, _, h => by simp [Mi.likeD] at h
  | .obj _ _, _, _, _, h => by simp [Mi.likeD] at h
  | .cell _, _, _, _, h => by simp [Mi.likeD] at h
theorem lts_of : ∀ ds es : List Mi.D, Mi.D.plains ds = true → Mi.D.plains es = true → Mi.likeDs ds es = true → PyProof.Rows.lexLt PyProof.Rows.itemOrd (PySem.W.keyToksAll (toPys ds)) (PySem.W.keyToksAll (toPys es)) = Mi.ltDs ds es
  | [], [], _, _, _ => by
    simp only [toPys, Mi.ltDs]
    exact PyProof.Rows.lex_irrefl _
  | [], e :: es, _, _, _ => by
    simp only [toPys, Mi.ltDs]
    rfl
  | d :: ds, [], _, _, _ => by
    simp only [toPys, Mi.ltDs]
    rfl
  | d :: ds, e :: es, p, q, h => by
    simp only [Mi.likeDs, Bool.and_eq_true] at h
    simp only [Mi.D.plains, Bool.and_eq_true] at p q
    simp only [toPys, Mi.ltDs]
    rw [PySem.W.dataLt_cons (like_of d e h.1), eqv_of d e p.1 q.1, lt_of d e p.1 q.1 h.1, lts_of ds es p.2 q.2 h.2]
    by_cases he : d = e <;> simp [he]
end
section
variable {K : PySem.W.Frag}
theorem toPys_map : ∀ ds : List Mi.D, toPys ds = ds.map toPy
  | [] => rfl
  | d :: ds => by simp only [toPys, List.map_cons, toPys_map ds]
def rSortV (K : PySem.W.Frag) : List V → Hp → VK → Prop := fun vs H Q => ∃ (a : Addr) (bs : List (V × Mi.D)), vs = [.ref a] ∧ SqL K H a (bs.map (·.1)) ∧ (∀ b ∈ bs, Dp K H b.1 (toPy b.2)) ∧ Mi.sortable (bs.map (·.2)) = true ∧
  ∀ p, H p = none → Q (.ref p) (upd H p (.lst ((bs.mergeSort fun x y => !Mi.ltD y.2 x.2).map (·.1))))
theorem each_vals : ∀ {bs : List (V × Mi.D)} {its : List Value}, Vals (bs.map (·.1)) its → PySem.W.EachIs (fun v b => RelV b.1 v) its bs
  | [], _, r => by
    cases r
    exact .nil
  | b :: bs, _, r => by
    rw [List.map_cons] at r
    cases r with
    | cons r1 r2 => exact .cons r1 (each_vals r2)
theorem vals_each : ∀ {bs : List (V × Mi.D)} {its : List Value}, PySem.W.EachIs (fun v b => RelV b.1 v) its bs → Vals (bs.map (·.1)) its
  | [], _, r => by
    cases r
    exact .nil
  | b :: bs, _, r => by
    cases r with
    | cons r1 r2 => exact .cons r1 (vals_each r2)
theorem each_imp {α β : Type} {R R' : α → β → Prop} : ∀ {as : List α} {bs : List β}, PySem.W.EachIs R as bs → (∀ a b, b ∈ bs → R a b → R' a b) → PySem.W.EachIs R' as bs
  | _, _, .nil, _ => .nil
  | _, _, .cons h t, f => .cons (f _ _ List.mem_cons_self h) (each_imp t fun a b hb => f a b (List.mem_cons_of_mem _ hb))
theorem sortable_of {ds : List Mi.D} (h : Mi.sortable ds = true) : PySem.W.AllAlike (ds.map toPy) ∧ PySem.W.Sortable (ds.map toPy) ∧ (∀ d ∈ ds, d.fit = true) ∧ (∀ d ∈ ds, ∀ e ∈ ds, Mi.likeD d e = true) ∧ ds.length ≤ sizeLine := by
  unfold Mi.sortable at h
  simp only [Bool.and_eq_true, List.all_eq_true, Bool.or_eq_true, decide_eq_true_eq] at h
  obtain ⟨⟨h1, h2⟩, h3⟩ := h
  refine ⟨fun d hd d' hd' => ?_, ?_, fun d hd => (h1 d hd).1, fun d hd e he => (h1 d hd).2 e he, by rw [← size_eq]; exact h3⟩
  · obtain ⟨e, he, rfl⟩ := List.mem_map.mp hd
    obtain ⟨e', he', rfl⟩ := List.mem_map.mp hd'
    exact like_of e e' ((h1 e he).2 e' he')
  · rcases h2 with h2 | h2
    · refine .inl fun d hd => ?_
      obtain ⟨e, he, rfl⟩ := List.mem_map.mp hd
      have q := h2 e he
      unfold Mi.isTup1 at q
      split at q
      · exact ⟨_, _, rfl⟩
      · cases q
    · refine .inr fun d hd => ?_
      obtain ⟨e, he, rfl⟩ := List.mem_map.mp hd
      have q := h2 e he
      have l := (h1 e he).2 e he
      cases e <;> simp only [Mi.likeD, Bool.false_eq_true] at l
      · exact ⟨(fun z => nomatch z), (fun _ z => nomatch z)⟩
      · exact ⟨(fun z => nomatch z), (fun _ z => nomatch z)⟩
      · cases q
      · exact ⟨(fun z => nomatch z), (fun _ z => nomatch z)⟩
theorem cr_sortV {X : Cx} (hu : X.A.units + 66 < cLine) : CallR X (.builtin "sorted") (rSortV X.K) := by
  intro pins s σ H vs us Q I r h
  obtain ⟨a, bs, rfl, hs, hd, so, q⟩ := h
  obtain ⟨its, rv, hl, hz⟩ := I.list hs
  rw [Vals.ref1 r]
  obtain ⟨al, sb, fit, lk, hsz⟩ := sortable_of so
  rw [List.map_map] at al sb
  rw [List.length_map] at hsz
  have e := each_vals rv
  have er : PySem.W.EachIs (fun v (b : V × Mi.D) => ∃ as, Reads s.heap v (toPy b.2) as) its bs := each_imp e fun v b hb rel => Dp.reads I _ _ _ (hd b hb) rel
  refine PySem.W.sorted_data (enc := fun b : V × Mi.D => toPy b.2) hl.isList e er al sb hsz (fun b hb => ?_) fun out ho eo => ?_
  · have hf := fit b.2 (List.mem_map.mpr ⟨b, hb, rfl⟩)
    unfold Mi.D.fit at hf
    rw [Bool.and_eq_true] at hf
    rw [depth_of b.2 hf.1]
    have := of_decide_eq_true hf.2
    omega
  · have em : bs.mergeSort (PySem.W.dataLe false fun b : V × Mi.D => toPy b.2) = bs.mergeSort fun x y => !Mi.ltD y.2 x.2 := by
      have := List.map_mergeSort (r := PySem.W.dataLe false fun b : V × Mi.D => toPy b.2) (s := fun x y => !Mi.ltD y.2 x.2) (f := id) (l := bs) fun x hx y hy => by
        show (!PySem.W.dataLt (toPy y.2) (toPy x.2)) = !Mi.ltD y.2 x.2
        have hx2 : x.2 ∈ bs.map (·.2) := List.mem_map.mpr ⟨x, hx, rfl⟩
        have hy2 : y.2 ∈ bs.map (·.2) := List.mem_map.mpr ⟨y, hy, rfl⟩
        rw [lt_of y.2 x.2 (Bool.and_eq_true_iff.mp (fit _ hy2)).1 (Bool.and_eq_true_iff.mp (fit _ hx2)).1 (lk _ hy2 _ hx2)]
      simpa using this
    rw [em] at eo
    have rv2 := vals_each eo
    obtain ⟨ep, he'⟩ := PyProof.Rows.sortedAll_at s.heap its (List.toArray out)
    have hlen : ((bs.mergeSort fun x y => !Mi.ltD y.2 x.2).map (·.1)).length ≤ sizeLine := by
      rw [List.length_map, List.length_mergeSort]
      exact hsz
    exact ⟨.ref _, upd H (s.heap.objs.size + 1) (.lst ((bs.mergeSort fun x y => !Mi.ltD y.2 x.2).map (·.1))), I.laid (t' := s.toks) (fun _ _ => PyProof.Rows.sortedAll_old) (Nat.le_succ _) ⟨hlen, out, ep, rv2, he'⟩, rfl, q _ (I.hok.fresh (Nat.le_succ _))⟩
theorem zip_fst {α F} {T : Tab} : ∀ {ds : List Mi.D} {vs : List V}, Rps K T α F ds vs → (vs.zip ds).map (·.1) = vs ∧ (vs.zip ds).map (·.2) = ds
  | [], vs, r => by
    have e : vs = [] := r
    subst e
    exact ⟨rfl, rfl⟩
  | d :: ds, _, r => by
    obtain ⟨v, s, rfl, _, q⟩ := r
    obtain ⟨h1, h2⟩ := zip_fst q
    exact ⟨by rw [List.zip_cons_cons, List.map_cons, h1], by rw [List.zip_cons_cons, List.map_cons, h2]⟩
theorem zip_rp {α F} {T : Tab} : ∀ {ds : List Mi.D} {vs : List V}, Rps K T α F ds vs → ∀ b ∈ vs.zip ds, Rp K T α F b.2 b.1
  | [], vs, r, b, h => by
    have e : vs = [] := r
    subst e
    simp at h
  | d :: ds, _, r, b, h => by
    obtain ⟨v, s, rfl, p, q⟩ := r
    rw [List.zip_cons_cons] at h
    rcases List.mem_cons.mp h with rfl | h
    · exact p
    · exact zip_rp q b h
theorem rps_of_zip {α F} {T : Tab} : ∀ {bs : List (V × Mi.D)}, (∀ b ∈ bs, Rp K T α F b.2 b.1) → Rps K T α F (bs.map (·.2)) (bs.map (·.1))
  | [], _ => rfl
  | b :: bs, h => ⟨b.1, bs.map (·.1), rfl, h b List.mem_cons_self, rps_of_zip fun c hc => h c (List.mem_cons_of_mem _ hc)⟩
end
section
variable {X : Cx} {T : Tab} {W : WX} {a b c o tg : Expr} {ea eb ec : Mi.E} {l : Mi.EL} {es rest : List Expr} {pos apos cpos p p2 : Pos}
theorem bl_sorted (hu : X.A.units + 66 < cLine) (hg : Gl X "sorted") (hm : X.mg "sorted" = none) (ha : PE X a (MV X.K T W ea)) (na : starEach [a] X.env = (false, eval a X.env) :: starEach [] X.env := by rfl) : PE X (.Call (.Name "sorted" p) [a] [] pos) (ML X.K T W (Mi.lSorted ea)) := by
  refine PE.imp (pe_callB (cr_sortV hu) hg hm boot_sorted (pa_cons ha pa_nil na) (he := na)) fun σ H Q h => ?_
  obtain ⟨α, F, env, cs, rc, ev, h⟩ := h
  refine ⟨α, F, env, cs, rc, ev, h.bnd.mono fun α1 F1 cs1 H1 x lt1 rc1 o1 v r1 => ?_⟩
  obtain ⟨xs, e, _⟩ := o1.out rc1
  rw [e] at o1
  simp only [Option.bind_eq_some_iff] at e
  obtain ⟨ys, e1, e2⟩ := e
  unfold Mi.sortD at e2
  by_cases so : Mi.sortable ys = true
  · rw [if_pos so] at e2
    cases e2
    obtain ⟨q, vs, rfl, s, r⟩ := lstOf_of rc1 r1 e1
    obtain ⟨z1, z2⟩ := zip_fst r
    have zr := zip_rp r
    refine ⟨q, vs.zip ys, rfl, by rw [z1]; exact s, fun b hb => ?_, by rw [z2]; exact so, fun p hp => ?_⟩
    · obtain ⟨_, _, fit, _, _⟩ := sortable_of so
      have hm : b.2 ∈ ys := by
        rw [← z2]
        exact List.mem_map.mpr ⟨b, hb, rfl⟩
      have hf := fit _ hm
      exact dp_of rc1.same _ _ (Bool.and_eq_true_iff.mp hf).1 (zr b hb)
    · obtain ⟨hf, ha⟩ := rc1.new_out hp
      refine o1.v (Nx.alloc hp) (rc1.alloc hp) p _ (lt1.dom p hp) upd_same hf ha ?_
      have h1 : Rps X.K T α1 F1 (((vs.zip ys).mergeSort fun x y => !Mi.ltD y.2 x.2).map (·.2)) (((vs.zip ys).mergeSort fun x y => !Mi.ltD y.2 x.2).map (·.1)) :=
        rps_of_zip fun b hb => zr b (List.mem_mergeSort.mp hb)
      rw [List.map_mergeSort (r := fun x y : V × Mi.D => !Mi.ltD y.2 x.2) (s := fun x y => !Mi.ltD y x) (f := (·.2)) fun _ _ _ _ => rfl, z2] at h1
      exact h1
  · rw [if_neg so] at e2
    cases e2
theorem key_of {K : PySem.W.Frag} {α F} {y : Mi.D} {w : V} (hk : Mi.isKey y = true) (r : Rp K T α F y w) : ∃ k : Key, w = kV k ∧ keyD k = y := by
  cases y <;> simp only [Mi.isKey, Bool.false_eq_true] at hk
  · exact ⟨.inl _, r, rfl⟩
  · exact ⟨.inr _, r, rfl⟩
theorem keyD_inj {k l : Key} (h : keyD k = keyD l) : k = l := by
  cases k <;> cases l <;> simp only [keyD, Mi.D.int.injEq, Mi.D.str.injEq, reduceCtorEq] at h <;> rw [h]
theorem find_of {K : PySem.W.Frag} {α F} : ∀ {kvs : List (Key × V)} {ws : List Mi.D} (k : Key), Rps K T α F ws (kvs.map (·.2)) → match Mi.find (keyD k) (kvs.map fun p => keyD p.1) ws with
    | some d => ∃ v, valV kvs k = some v ∧ Rp K T α F d v
    | none => valV kvs k = none
  | [], ws, k, r => by
    have e : Mi.find (keyD k) (([] : List (Key × V)).map fun p => keyD p.1) ws = none := by
      cases ws <;> rfl
    rw [e]
    exact valV_nil
  | p :: kvs, [], k, r => by
    have e : List.map (·.2) (p :: kvs) = [] := r
    cases e
  | p :: kvs, w :: ws, k, r => by
    obtain ⟨v, s, e, r1, r2⟩ := r
    rw [List.map_cons] at e
    cases e
    rw [List.map_cons]
    unfold Mi.find
    by_cases h : p.1 = k
    · rw [if_pos (by rw [h])]
      exact ⟨p.2, valV_pos h, r1⟩
    · rw [if_neg (fun z => h (keyD_inj z)), valV_neg h]
      exact find_of k r2
theorem dctOf_of {K : PySem.W.Frag} {α F cs H} {x : Mi.D} {v : V} {ks ws : List Mi.D} (rc : RC K T α F cs H) (rx : Rp K T α F x v) (h : Mi.dctOf cs x = some (ks, ws)) : ∃ (a : Addr) (kvs : List (Key × V)), v = .ref a ∧ Rd H a (.dK kvs) ∧ kvs.map (fun p => keyD p.1) = ks ∧ Rps K T α F ws (kvs.map (·.2)) := by
  cases x <;> simp only [Mi.dctOf, reduceCtorEq] at h
  · exact rx.elim
  · rename_i k'
    obtain ⟨a, ea, rfl⟩ := rx
    cases hc : cs[k']? with
    | none => rw [hc] at h; cases h
    | some c =>
      rw [hc] at h
      cases c <;> simp only [reduceCtorEq, Option.some.injEq, Prod.mk.injEq] at h
      · obtain ⟨rfl, rfl⟩ := h
        obtain ⟨kvs, e, k, q⟩ := rc.ok _ a _ ea hc
        exact ⟨a, kvs, rfl, .inl e, k, q⟩
      · obtain ⟨rfl, rfl⟩ := h
        obtain ⟨o, kvs, _, e, k, q⟩ := rc.ok _ a _ ea hc
        exact ⟨a, kvs, rfl, .inr ⟨o, e⟩, k, q⟩
theorem cellD_of {K : PySem.W.Frag} {α F cs H} {x : Mi.D} {v : V} {n : Nat} {ks ws : List Mi.D} (rc : RC K T α F cs H) (rx : Rp K T α F x v) (h : Mi.cellD cs x = some (n, ks, ws)) : ∃ (a : Addr) (kvs : List (Key × V)), v = .ref a ∧ α[n]? = some a ∧ H a = some (.dK kvs) ∧ kvs.map (fun p => keyD p.1) = ks ∧ Rps K T α F ws (kvs.map (·.2)) := by
  cases x <;> simp only [Mi.cellD, reduceCtorEq] at h
  rename_i k'
  obtain ⟨a, ea, rfl⟩ := rx
  cases hc : cs[k']? with
  | none => rw [hc] at h; cases h
  | some c =>
    rw [hc] at h
    cases c <;> simp only [reduceCtorEq, Option.some.injEq, Prod.mk.injEq] at h
    obtain ⟨rfl, rfl, rfl⟩ := h
    obtain ⟨kvs, e, k, q⟩ := rc.ok _ a _ ea hc
    exact ⟨a, kvs, rfl, ea, e, k, q⟩
theorem br_dget {i : Expr} (hu : X.A.units + 1 < cLine) (ho : PE X o (MV X.K T W ea)) (hi : PE X i (MV X.K T W eb)) (hs : NoSl i) : PE X (.Subscript o i pos) (MV X.K T W (Mi.e2 Mi.oDGet ea eb)) := PE.imp (pe_dget hu ho hi hs) fun σ H Q h => by
  obtain ⟨α, F, env, cs, rc, ev, h⟩ := h
  refine ⟨α, F, env, cs, rc, ev, h.bnd.mono fun α1 F1 cs1 H1 x lt1 rc1 o1 v r1 => ?_⟩
  refine ⟨α1, F1, env, cs1, rc1, ev.mono lt1.toLt, o1.bnd.mono fun α2 F2 cs2 H2 y lt2 rc2 o2 w r2 => ?_⟩
  obtain ⟨z, e, q⟩ := o2.out rc2
  unfold Mi.oDGet at e
  by_cases hk : Mi.isKey y = true
  · rw [if_pos hk] at e
    simp only [Option.bind_eq_some_iff] at e
    obtain ⟨⟨ks, ws⟩, e1, e2⟩ := e
    obtain ⟨a, kvs, rfl, hd, hks, r⟩ := dctOf_of rc2 (Rp.mono lt2.toLt _ _ r1) e1
    obtain ⟨k, rfl, rfl⟩ := key_of hk r2
    have f := find_of (T := T) k r
    subst hks
    rw [e2] at f
    obtain ⟨u, hu, ru⟩ := f
    exact ⟨a, u, rfl, .inl ⟨kvs, k, hd, rfl, hu.symm⟩, q u ru⟩
  · rw [if_neg hk] at e
    cases e
theorem pcv_in {i : Expr} (hu : X.A.units + 1 < cLine) (hi : PE X i (MV X.K T W eb)) (ho : PE X o (MV X.K T W ea)) : ∀ σ H Q, MV X.K T W (Mi.e2 Mi.oDIn eb ea) σ H Q → tDIn (MV X.K T W eb) (MV X.K T W ea) σ H Q := fun σ H Q h => by
  obtain ⟨α, F, env, cs, rc, ev, h⟩ := h
  refine ⟨α, F, env, cs, rc, ev, h.bnd.mono fun α1 F1 cs1 H1 y lt1 rc1 o1 w r1 => ?_⟩
  refine ⟨α1, F1, env, cs1, rc1, ev.mono lt1.toLt, o1.bnd.mono fun α2 F2 cs2 H2 x lt2 rc2 o2 v r2 => ?_⟩
  obtain ⟨z, e, q⟩ := o2.out rc2
  unfold Mi.oDIn at e
  by_cases hk : Mi.isKey y = true
  · rw [if_pos hk] at e
    simp only [Option.map_eq_some_iff] at e
    obtain ⟨⟨ks, ws⟩, e1, e2⟩ := e
    obtain ⟨a, kvs, rfl, hd, hks, r⟩ := dctOf_of rc2 r2 e1
    obtain ⟨k, rfl, rfl⟩ := key_of hk r1
    have f := find_of (T := T) k r
    subst hks e2
    refine ⟨a, valV kvs k, rfl, .inl ⟨kvs, k, hd, rfl, rfl⟩, q _ ?_⟩
    dsimp only at f ⊢
    split at f
    · rename_i d ed
      obtain ⟨u, hu, _⟩ := f
      rw [ed, hu]
      rfl
    · rename_i ed
      rw [ed, f]
      rfl
  · rw [if_neg hk] at e
    cases e
theorem br_din {i : Expr} (hu : X.A.units + 1 < cLine) (hi : PE X i (MV X.K T W eb)) (ho : PE X o (MV X.K T W ea)) (h1 : behindInMarks .In o = false := by rfl) : PE X (.Compare i [.In] [o] pos) (MV X.K T W (Mi.e2 Mi.oDIn eb ea)) := PE.imp (pe_cmp (pc_din hu hi ho) h1) (pcv_in hu hi ho)
theorem bt_din {i : Expr} (hu : X.A.units + 1 < cLine) (hi : PE X i (MV X.K T W eb)) (ho : PE X o (MV X.K T W ea)) (h1 : behindInMarks .In o = false := by rfl) : PT X (.Compare i [.In] [o] pos) (MT X.K T W (Mi.e2 Mi.oDIn eb ea)) := PT.imp (pt_cmp (pc_din hu hi ho) h1) fun σ H Q h => by
  obtain ⟨α, F, env, cs, rc, ev, h⟩ := h
  refine pcv_in hu hi ho σ H _ ⟨α, F, env, cs, rc, ev, h.mono fun α1 F1 cs1 H1 d _ _ q v r => ?_⟩
  obtain ⟨k, rfl, q⟩ := q
  exact ⟨k, r, q⟩
theorem pcv_notin {i : Expr} (hu : X.A.units + 1 < cLine) (hi : PE X i (MV X.K T W eb)) (ho : PE X o (MV X.K T W ea)) : ∀ σ H Q, MV X.K T W (Mi.e2 Mi.oDNotIn eb ea) σ H Q → tDNotIn (MV X.K T W eb) (MV X.K T W ea) σ H Q := fun σ H Q h => by
  obtain ⟨α, F, env, cs, rc, ev, h⟩ := h
  refine ⟨α, F, env, cs, rc, ev, h.bnd.mono fun α1 F1 cs1 H1 y lt1 rc1 o1 w r1 => ?_⟩
  refine ⟨α1, F1, env, cs1, rc1, ev.mono lt1.toLt, o1.bnd.mono fun α2 F2 cs2 H2 x lt2 rc2 o2 v r2 => ?_⟩
  obtain ⟨z, e, q⟩ := o2.out rc2
  unfold Mi.oDNotIn at e
  by_cases hk : Mi.isKey y = true
  · rw [if_pos hk] at e
    simp only [Option.map_eq_some_iff] at e
    obtain ⟨⟨ks, ws⟩, e1, e2⟩ := e
    obtain ⟨a, kvs, rfl, hd, hks, r⟩ := dctOf_of rc2 r2 e1
    obtain ⟨k, rfl, rfl⟩ := key_of hk r1
    have f := find_of (T := T) k r
    subst hks e2
    refine ⟨a, valV kvs k, rfl, .inl ⟨kvs, k, hd, rfl, rfl⟩, q _ ?_⟩
    dsimp only at f ⊢
    split at f
    · rename_i d ed
      obtain ⟨u, hu, _⟩ := f
      rw [ed, hu]
      rfl
    · rename_i ed
      rw [ed, f]
      rfl
  · rw [if_neg hk] at e
    cases e
theorem br_dnotin {i : Expr} (hu : X.A.units + 1 < cLine) (hi : PE X i (MV X.K T W eb)) (ho : PE X o (MV X.K T W ea)) (h1 : behindInMarks .NotIn o = false := by rfl) : PE X (.Compare i [.NotIn] [o] pos) (MV X.K T W (Mi.e2 Mi.oDNotIn eb ea)) := PE.imp (pe_cmp (pc_dnotin hu hi ho) h1) (pcv_notin hu hi ho)
theorem bt_dnotin {i : Expr} (hu : X.A.units + 1 < cLine) (hi : PE X i (MV X.K T W eb)) (ho : PE X o (MV X.K T W ea)) (h1 : behindInMarks .NotIn o = false := by rfl) : PT X (.Compare i [.NotIn] [o] pos) (MT X.K T W (Mi.e2 Mi.oDNotIn eb ea)) := PT.imp (pt_cmp (pc_dnotin hu hi ho) h1) fun σ H Q h => by
  obtain ⟨α, F, env, cs, rc, ev, h⟩ := h
  refine pcv_notin hu hi ho σ H _ ⟨α, F, env, cs, rc, ev, h.mono fun α1 F1 cs1 H1 d _ _ q v r => ?_⟩
  obtain ⟨k, rfl, q⟩ := q
  exact ⟨k, r, q⟩
theorem put_mem {k : Key} : ∀ {kvs : List (Key × V)}, (keyD k ∈ kvs.map fun p => keyD p.1) ↔ (kvs.any fun kv => decide (kv.1 = k)) = true
  | [] => by simp
  | p :: kvs => by
    rw [List.map_cons, List.mem_cons, List.any_cons, Bool.or_eq_true, put_mem]
    constructor
    · rintro (h | h)
      · exact .inl (decide_eq_true (keyD_inj h).symm)
      · exact .inr h
    · rintro (h | h)
      · exact .inl (by rw [of_decide_eq_true h])
      · exact .inr h
theorem zipW_of {K : PySem.W.Frag} {α F} {k : Key} {d : Mi.D} {u : V} (ru : Rp K T α F d u) : ∀ {kvs : List (Key × V)} {ws : List Mi.D}, Rps K T α F ws (kvs.map (·.2)) →
    Rps K T α F (List.zipWith (fun k' v' => if k' = keyD k then d else v') (kvs.map fun p => keyD p.1) ws) ((kvs.map fun kv => if kv.1 = k then (kv.1, u) else kv).map (·.2))
  | [], ws, r => rfl
  | p :: kvs, [], r => by
    have e : List.map (·.2) (p :: kvs) = [] := r
    cases e
  | p :: kvs, w :: ws, r => by
    obtain ⟨v, s, e, r1, r2⟩ := r
    rw [List.map_cons] at e
    cases e
    rw [List.map_cons, List.map_cons, List.map_cons, List.zipWith_cons_cons]
    by_cases h : p.1 = k
    · rw [if_pos (by rw [h]), if_pos h]
      exact ⟨u, _, rfl, ru, zipW_of ru r2⟩
    · rw [if_neg (fun z => h (keyD_inj z)), if_neg h]
      exact ⟨p.2, _, rfl, r1, zipW_of ru r2⟩
theorem put_of {K : PySem.W.Frag} {α F} {kvs : List (Key × V)} {ws : List Mi.D} {k : Key} {d : Mi.D} {u : V} (r : Rps K T α F ws (kvs.map (·.2))) (ru : Rp K T α F d u) :
    (putK kvs k u).map (fun p => keyD p.1) = (Mi.put (keyD k) d (kvs.map fun p => keyD p.1) ws).1 ∧ Rps K T α F (Mi.put (keyD k) d (kvs.map fun p => keyD p.1) ws).2 ((putK kvs k u).map (·.2)) := by
  unfold putK Mi.put
  by_cases h : (kvs.any fun kv => decide (kv.1 = k)) = true
  · rw [if_pos h, if_pos (put_mem.mpr h)]
    refine ⟨?_, zipW_of ru r⟩
    rw [List.map_map]
    refine List.map_congr_left fun p _ => ?_
    show keyD (if p.1 = k then (p.1, u) else p).1 = keyD p.1
    split <;> rfl
  · rw [if_neg h, if_neg (fun z => h (put_mem.mp z))]
    refine ⟨by rw [List.map_append]; rfl, ?_⟩
    rw [List.map_append]
    exact r.append (Rps.one ru)
theorem ms_dput {K : PySem.W.Frag} (D : Ends) (σ : L2.St) (H : Hp) (h : MS K T W (Mi.sPut Mi.putD ea eb ec) D σ H) : sDPut (MV K T W ea) (MV K T W eb) (MV K T W ec) D σ H := by
  obtain ⟨α, F, env, cs, rc, ev, h⟩ := h
  refine ⟨α, F, env, cs, rc, ev, (OutS.thn ev h).mono fun α1 F1 cs1 H1 d lt1 rc1 o1 u r1 => ?_⟩
  have ev1 := ev.mono lt1.toLt
  refine ⟨α1, F1, env, cs1, rc1, ev1, (OutS.thn ev1 o1).mono fun α2 F2 cs2 H2 x lt2 rc2 o2 v r2 => ?_⟩
  have ev2 := ev1.mono lt2.toLt
  refine ⟨α2, F2, env, cs2, rc2, ev2, (OutS.thn ev2 o2).mono fun α3 F3 cs3 H3 y lt3 rc3 o3 w r3 => ?_⟩
  cases e : Mi.putD cs3 x y d with
  | none => rw [e] at o3; exact o3.elim
  | some cs4 =>
    rw [e] at o3
    unfold Mi.putD at e
    split at e
    · rename_i n ks ws hc
      by_cases hk : Mi.isKey y = true ∧ ks.length < Mi.SIZE
      · rw [if_pos hk] at e
        cases e
        obtain ⟨a, kvs, rfl, ea, hH, hks, r⟩ := cellD_of rc3 (Rp.mono lt3.toLt _ _ r2) hc
        obtain ⟨k, rfl, rfl⟩ := key_of hk.1 r3
        have ru := Rp.mono (lt2.trans lt3).toLt _ _ r1
        subst hks
        obtain ⟨p1, p2⟩ := put_of (k := k) r ru
        obtain ⟨rc4, nx4⟩ := rc3.write (c := .dct (Mi.put (keyD k) d (kvs.map fun p => keyD p.1) ws).1 (Mi.put (keyD k) d (kvs.map fun p => keyD p.1) ws).2) (o := .dK (putK kvs k u)) ea (fun _ _ z => by rw [hH] at z; cases z) ⟨_, upd_same, p1, p2⟩
        refine ⟨a, _, rfl, DPut.k hH (by have := hk.2; rw [List.length_map, size_eq] at this; exact this), ?_⟩
        exact o3 _ _ _ σ nx4 rc4 (ev2.mono (lt3.trans nx4).toLt)
      · rw [if_neg hk] at e
        cases e
    · cases e
theorem bs_putD {i e : Expr} {pos' : Pos} (hu : X.A.units + 1 < cLine) (ho : PE X o (MV X.K T W ea)) (hi : PE X i (MV X.K T W eb)) (hv : PE X e (MV X.K T W ec)) (hs : swapsWith e (some (.Subscript o i pos')) pos.line X.env = pure false := by rfl) :
    PS X (.Assign [.Subscript o i pos'] e pos) (MS X.K T W (Mi.sPut Mi.putD ea eb ec)) := PS.imp (ps_dput hu ho hi hv hs) ms_dput
inductive BP (X : Cx) (T : Tab) (W : WX) : List (Option Expr) → List Expr → List (Mi.E × Mi.E) → Prop
  | nil : BP X T W [] [] []
  | cons {k v : Expr} {ks : List (Option Expr)} {vs : List Expr} {ek ev : Mi.E} {ps : List (Mi.E × Mi.E)} : PE X k (MV X.K T W ek) → PE X v (MV X.K T W ev) → BP X T W ks vs ps → BP X T W (some k :: ks) (v :: vs) ((ek, ev) :: ps)
theorem BP.pps {ks : List (Option Expr)} {vs : List Expr} {ps : List (Mi.E × Mi.E)} (h : BP X T W ks vs ps) : PPs X pos ks vs (ps.map fun p => (MV X.K T W p.1, MV X.K T W p.2)) := by
  induction h with
  | nil => exact pps_nil
  | cons hk hv _ ih => exact pps_cons hk hv ih
theorem BP.all {ks : List (Option Expr)} {vs : List Expr} {ps : List (Mi.E × Mi.E)} (h : BP X T W ks vs ps) : ks.all (·.isSome) = true ∧ ks.length = vs.length ∧ ks.length = ps.length := by
  induction h with
  | nil => exact ⟨rfl, rfl, rfl⟩
  | cons hk hv _ ih => exact ⟨by simp [ih.1], by simp [ih.2.1], by simp [ih.2.2]⟩
theorem tPairs_of {K : PySem.W.Frag} : ∀ (ps : List (Mi.E × Mi.E)) {α F env cs} {σ : L2.St} {H : Hp} {Q : List (V × V) → Hp → Prop}, RC K T α F cs H → Ev K T α F env σ →
    Out K T W σ α F H (Mi.dPairs ps env cs) (fun α' F' _ H' qs => ∀ us, Rps K T α' F' (qs.map (·.1)) (us.map (·.1)) → Rps K T α' F' (qs.map (·.2)) (us.map (·.2)) → Q us H') → tPairs (ps.map fun p => (MV K T W p.1, MV K T W p.2)) σ H Q
  | [], α, F, env, cs, σ, H, Q, rc, ev, h => h.v (Nx.refl _ _ _) rc [] rfl rfl
  | (k, v) :: ps, α, F, env, cs, σ, H, Q, rc, ev, h => by
    refine ⟨α, F, env, cs, rc, ev, (show Out K T W σ α F H (Mi.bnd (k env cs) fun x cs => Mi.bnd (v env cs) fun y cs => Mi.bnd (Mi.dPairs ps env cs) fun ps cs => some (.v ((x, y) :: ps) cs)) _ from h).bnd.mono fun α1 F1 cs1 H1 x lt1 rc1 o1 a r1 => ?_⟩
    refine ⟨α1, F1, env, cs1, rc1, ev.mono lt1.toLt, o1.bnd.mono fun α2 F2 cs2 H2 y lt2 rc2 o2 b r2 => ?_⟩
    refine tPairs_of ps rc2 (ev.mono (lt1.trans lt2).toLt) (o2.bnd.mono fun α3 F3 cs3 H3 qs lt3 rc3 o3 us u1 u2 => ?_)
    refine o3.v (Nx.refl _ _ _) rc3 ((a, b) :: us) ?_ ?_
    · exact ⟨a, _, rfl, Rp.mono (lt2.trans lt3).toLt _ _ r1, u1⟩
    · exact ⟨b, _, rfl, Rp.mono lt3.toLt _ _ r2, u2⟩
theorem merge_of {K : PySem.W.Frag} {α F} : ∀ {qs : List (Mi.D × Mi.D)} {kvs acc : List (Key × V)} {ks ws : List Mi.D}, (∀ q ∈ qs, Mi.isKey q.1 = true) → qs.map (·.1) = kvs.map (fun p => keyD p.1) → Rps K T α F (qs.map (·.2)) (kvs.map (·.2)) →
    acc.map (fun p => keyD p.1) = ks → Rps K T α F ws (acc.map (·.2)) → (mergeK acc kvs).map (fun p => keyD p.1) = (Mi.puts qs (ks, ws)).1 ∧ Rps K T α F (Mi.puts qs (ks, ws)).2 ((mergeK acc kvs).map (·.2))
  | [], [], acc, ks, ws, _, _, _, e, r => ⟨e, r⟩
  | [], _ :: _, _, _, _, _, e, _, _, _ => by simp at e
  | _ :: _, [], _, _, _, _, e, _, _, _ => by simp at e
  | q :: qs, kv :: kvs, acc, ks, ws, hk, e, r, ea, ra => by
    rw [List.map_cons, List.map_cons] at e
    obtain ⟨e1, e2⟩ := List.cons.inj e
    obtain ⟨v, s, es, r1, r2⟩ := r
    rw [List.map_cons] at es
    cases es
    subst ea
    obtain ⟨p1, p2⟩ := put_of (k := kv.1) (d := q.2) (u := kv.2) ra r1
    have := merge_of (acc := putK acc kv.1 kv.2) (fun q' hq' => hk q' (List.mem_cons_of_mem _ hq')) e2 r2 p1 p2
    rw [← e1] at this
    exact this
theorem keys_of {K : PySem.W.Frag} {α F} : ∀ {qs : List (Mi.D × Mi.D)} {us : List (V × V)}, (∀ q ∈ qs, Mi.isKey q.1 = true) → Rps K T α F (qs.map (·.1)) (us.map (·.1)) → ∃ kvs : List (Key × V), us = kvs.map (fun kv => (kV kv.1, kv.2)) ∧ qs.map (·.1) = kvs.map (fun p => keyD p.1)
  | [], [], _, _ => ⟨[], rfl, rfl⟩
  | [], u :: us, _, r => by
    have e : List.map (·.1) (u :: us) = [] := r
    cases e
  | q :: qs, [], _, r => by
    obtain ⟨v, s, e, _⟩ := r
    cases e
  | q :: qs, u :: us, hk, r => by
    obtain ⟨v, s, e, r1, r2⟩ := r
    rw [List.map_cons] at e
    cases e
    obtain ⟨k, e1, e2⟩ := key_of (hk q List.mem_cons_self) r1
    obtain ⟨kvs, e3, e4⟩ := keys_of (fun q' hq' => hk q' (List.mem_cons_of_mem _ hq')) r2
    refine ⟨(k, u.2) :: kvs, ?_, ?_⟩
    · rw [List.map_cons, ← e3]
      show u :: us = (kV k, u.2) :: us
      rw [← e1]
    · rw [List.map_cons, List.map_cons, ← e4, ← e2]
theorem Out.bnd2 {K : PySem.W.Frag} {A B : Type} {σ : L2.St} {α : List Addr} {F H H0 : Hp} {m : Option (Mi.R A)} {f : A → Mi.Cs → Option (Mi.R B)} {k : List Addr → Hp → Mi.Cs → Hp → B → Prop} {k' : List Addr → Hp → Mi.Cs → Hp → A → Prop} (lt : Nx α F H α F H0) (h : Out K T W σ α F H (Mi.bnd m f) k)
    (hk : ∀ α1 F1 cs1 H1 a, Nx α F H0 α1 F1 H1 → RC K T α1 F1 cs1 H1 → Out K T W σ α F H (f a cs1) k → k' α1 F1 cs1 H1 a) : Out K T W σ α F H0 m k' := by
  match m, h with
  | some (.v a cs), h => exact fun α' F' H' lt rc => hk _ _ _ _ _ lt rc h
  | some (.x c cs), h => exact fun α' F' H' C nm lt' rc t => h α' F' H' C nm (lt.trans lt') rc t
  | none, h => exact h.elim
theorem RC.other {K : PySem.W.Frag} {α F cs H} (r : RC K T α F cs H) {p : Addr} {o : HO} (hf : F p = none) (ha : p ∉ α) : RC K T α F cs (upd H p o) := by
  refine ⟨fun b u e => ?_, r.len, r.nd, r.out, fun k a c h1 h2 => ?_⟩
  · rw [upd_ne (ne_of_none e hf)]
    exact r.same _ _ e
  · refine (r.ok k a c h1 h2).heap (upd_ne fun z => ha ?_)
    subst z
    exact List.mem_of_getElem? h1
theorem br_dict {ks : List (Option Expr)} {vs : List Expr} {ps : List (Mi.E × Mi.E)} (h : BP X T W ks vs ps) (h0 : ks ≠ []) (h15 : ks.length ≤ 15) : PE X (.Dict ks vs pos) (MV X.K T W (Mi.eDc ps)) := by
  refine PE.imp (pe_disp h.pps h.all.1 h.all.2.1 h0 h15) fun σ H Q h => ?_
  obtain ⟨α, F, env, cs, rc, ev, h⟩ := h
  intro p hp
  have rc1 := rc.alloc (o := .dK []) hp
  obtain ⟨hf, ha⟩ := rc.new_out hp
  refine tPairs_of ps rc1 ev (Out.bnd2 (Nx.alloc hp) h fun α1 F1 cs1 H1 qs lt1 rc1 o1 us r1 r2 => ?_)
  obtain ⟨e1, f1, a1⟩ := lt1.fr p _ upd_same hf ha
  by_cases hq : (qs.all (fun q => Mi.isKey q.1) && decide (qs.length ≤ 15)) = true
  · rw [if_pos hq] at o1
    rw [Bool.and_eq_true] at hq
    have hk : ∀ q ∈ qs, Mi.isKey q.1 = true := List.all_eq_true.mp hq.1
    obtain ⟨kvs, e2, e3⟩ := keys_of hk r1
    subst e2
    have r2' : Rps X.K T α1 F1 (qs.map (·.2)) (kvs.map (·.2)) := by
      rw [List.map_map] at r2
      exact r2
    obtain ⟨m1, m2⟩ := merge_of (acc := []) (ks := []) (ws := []) hk e3 r2' rfl rfl
    have hl : kvs.length ≤ 15 := by
      have := congrArg List.length e3
      rw [List.length_map, List.length_map] at this
      have := of_decide_eq_true hq.2
      omega
    refine ⟨e1, kvs, rfl, hl, ?_⟩
    have rc2 := rc1.other (o := .dK (mergeK [] kvs)) f1 a1
    have nx0 : Nx α F H α1 F1 (upd H1 p (.dK (mergeK [] kvs))) := by
      refine ⟨lt1.toLt, fun b u q1 q2 q3 => ?_, fun b q => ?_⟩
      · have hb := ne_of_none q1 hp
        have := lt1.fr b u (by rw [upd_ne hb]; exact q1) q2 q3
        rw [upd_ne hb]
        exact this
      · by_cases hb : b = p
        · subst hb
          exact hp
        · rw [upd_ne hb] at q
          have := lt1.dom b q
          rw [upd_ne hb] at this
          exact this
    obtain ⟨rc3, nx3⟩ := rc2.push nx0 hp f1 a1 (c := .dct (Mi.puts qs ([], [])).1 (Mi.puts qs ([], [])).2) ⟨_, upd_same, m1, m2⟩
    refine o1.v nx3 rc3 (.ref p) ⟨p, ?_, rfl⟩
    rw [← rc1.len, List.getElem?_append_right (Nat.le_refl _), Nat.sub_self]
    rfl
  · rw [if_neg hq] at o1
    exact o1.elim
theorem br_dict0 : PE X (.Dict [] [] pos) (MV X.K T W (Mi.eDc [])) := PE.imp pe_dnewK fun σ H Q h => by
  obtain ⟨α, F, env, cs, rc, ev, h⟩ := h
  intro p hp
  obtain ⟨hf, ha⟩ := rc.new_out hp
  obtain ⟨rc3, nx3⟩ := (rc.alloc (o := .dK []) hp).push (Nx.alloc hp) hp hf ha (c := .dct [] []) ⟨[], upd_same, rfl, rfl⟩
  refine Out.v h nx3 rc3 (.ref p) ⟨p, ?_, rfl⟩
  rw [← rc.len, List.getElem?_append_right (Nat.le_refl _), Nat.sub_self]
  rfl
end
end Br
end
section
set_option Elab.async false
set_option linter.all false
set_option maxRecDepth 100000
set_option maxHeartbeats 4000000
namespace Br
open PySem PySem.Spec PyProof.Rows L2
section
variable {X : Cx} {T : Tab} {W : WX} {a b c o tg : Expr} {ea eb ec : Mi.E} {l : Mi.EL} {es rest : List Expr} {pos apos cpos p p2 : Pos}
def rValsL : V → Hp → VK → Prop := fun x H Q => ∃ (d : Addr) (kvs : List (Key × V)), x = .ref d ∧ H d = some (.dK kvs) ∧ ∀ p, H p = none → Q (.ref p) (upd H p (.lst (kvs.map (·.2))))
theorem vals_items : ∀ {kvs : List (Key × V)} {vs : List (Key × Value)} {us : List Value}, KV kvs vs → us.length = vs.length → (∀ (i : Nat) u, us[i]? = some u → ∃ k, vs[i]? = some (k, u)) → Vals (kvs.map (·.2)) us
  | _, _, [], .nil, _, _ => .nil
  | _, _, _ :: _, .nil, h, _ => by simp at h
  | _, _, [], .cons _ _, h, _ => by simp at h
  | _, _, u :: us, .cons (a := p) (b := q) r t, h, hi => by
    obtain ⟨k, e⟩ := hi 0 u rfl
    have e1 : q = (k, u) := Option.some.inj e
    subst e1
    refine .cons r.2 (vals_items t (by simpa using h) fun i w e => ?_)
    have := hi (i + 1) w (by simpa using e)
    simpa using this
theorem pe_listVals {e : Expr} {te : TE} (hc : X.calm = true) (he : PE X e te) (hg : Gl X "list") (hm : X.mg "list" = none) (hbase : attributeBase e "values" X.env (eval e X.env) = eval e X.env := by rfl) (hline : (apos.endLine == cpos.line) = true := by rfl)
    (hs : starEach [.Call (.Attribute e "values" apos) [] [] cpos] X.env = (false, eval (.Call (.Attribute e "values" apos) [] [] cpos) X.env) :: starEach [] X.env := by rfl) :
    PE X (.Call (.Name "list" p) [.Call (.Attribute e "values" apos) [] [] cpos] [] pos) (fun σ H Q => te σ H fun x H1 => rValsL x H1 Q) := by
  constructor
  intro pins s σ H Q I hq
  apply wpAny_Call_Name_kw
  apply ld_blt I hg hm PyProof.Rows.boot_list
  apply PyProof.Rows.callWith_type1 _ hs rfl
  rw [hs]
  change wpAny _ _ (spliced ((false, eval (.Call (.Attribute e "values" apos) [] [] cpos) X.env) :: backTo pos (starEach [] X.env))) _ X.xe s
  refine Calls.spliced_cons ?_
  apply wpAny_Call_method (T := "dict") (id := "dict.values") hbase rfl hline F.plainAttrs_dict F.slot_dict_values F.type_dict_values
  apply thn (he.run pins s σ H _ I hq)
  rintro u s1 ⟨x, H1, I1, rx, d, kvs, rfl, hd, q⟩
  obtain rfl : u = Value.ref d := rx
  obtain ⟨hz, lo, vs, kv, hdo⟩ := I1.hok d _ hd
  obtain ⟨ep, hat⟩ := hdo.dictAt
  have lk : kvs.length = vs.length := Paired.length kv
  have I2 : Inv X pins σ H1 { s1 with heap := s1.heap.push { cls := .type "dict_values", data := .fields #[.ref d] } } := I1.kept (t' := s1.toks) fun b ob q => Heap.get?_push_of_some _ q
  constructor
  · exact hdo.typeIs
  constructor
  · exact hdo.mapOf.noDict
  apply method_meetsIn F.slot_dict_values F.entry_dict_values rfl
  apply PySem.evalArgs_none
  constructor
  · rfl
  constructor
  · exact hdo.typeIs
  constructor
  · exact F.args_dict_values_1 _
  refine ⟨_, meets_dict_values (mixKind X.prog X.w) d lo, ⟨vs, hdo⟩, ?_⟩
  apply Calls.spliced_nil
  apply PySem.W.kdl_call (PySem.W.kdl_values (knd := mixKind X.prog X.w) (kvs := vs) (ep := ep)) (I1.ok.hd hc) ⟨⟨_, Heap.get?_push_size _ rfl, rfl, rfl⟩, hat.push _⟩ (by omega)
  intro h' tk acc c hk hS hi
  have hl : acc.toList.length = vs.length := by rw [Array.length_toList]; exact hi.1
  have rv : Vals (kvs.map (·.2)) acc.toList := vals_items kv hl fun i w e => hi.2 i w (by rw [← Array.getElem?_toList]; exact e)
  have new := I2.hok.fresh (Nat.le_refl _)
  exact ⟨.ref _, upd H1 _ (.lst (kvs.map (·.2))), I2.laid (t' := tk) hk (Nat.le_refl _) (show ObjOk X.prog X.w _ _ _ (.lst (kvs.map (·.2))) from ⟨by rw [List.length_map]; exact hz, acc.toList, c, rv, by rw [Array.toArray_toList]; exact hS⟩), rfl, q _ new⟩
theorem bl_vals {e : Expr} (hc : X.calm = true) (he : PE X e (MV X.K T W ea)) (hg : Gl X "list") (hm : X.mg "list" = none) (hbase : attributeBase e "values" X.env (eval e X.env) = eval e X.env := by rfl) (hline : (apos.endLine == cpos.line) = true := by rfl)
    (hs : starEach [.Call (.Attribute e "values" apos) [] [] cpos] X.env = (false, eval (.Call (.Attribute e "values" apos) [] [] cpos) X.env) :: starEach [] X.env := by rfl) :
    PE X (.Call (.Name "list" p) [.Call (.Attribute e "values" apos) [] [] cpos] [] pos) (ML X.K T W (Mi.lVals ea)) := PE.imp (pe_listVals hc he hg hm hbase hline hs) fun σ H Q h => by
  obtain ⟨α, F, env, cs, rc, ev, h⟩ := h
  refine ⟨α, F, env, cs, rc, ev, h.bnd.mono fun α1 F1 cs1 H1 x lt1 rc1 o1 v r1 => ?_⟩
  obtain ⟨xs, e, _⟩ := o1.out rc1
  rw [e] at o1
  simp only [Option.map_eq_some_iff] at e
  obtain ⟨⟨n, ks, ws⟩, e1, rfl⟩ := e
  obtain ⟨a, kvs, rfl, ea, hH, hks, r⟩ := cellD_of rc1 r1 e1
  refine ⟨a, kvs, rfl, hH, fun p hp => ?_⟩
  obtain ⟨hf, ha⟩ := rc1.new_out hp
  exact o1.v (Nx.alloc hp) (rc1.alloc hp) p _ (lt1.dom p hp) upd_same hf ha r
end
end Br
end
section
set_option Elab.async false
set_option linter.all false
set_option maxRecDepth 100000
set_option maxHeartbeats 4000000
namespace Br
open PySem PySem.Spec PyProof.Rows L2
section
variable {P : Program} {w : World} {A : Around} {E : Value → Shared → Prop} {s : Shared}
abbrev eSet (w : World) : Obj := { cls := .type "set", dict := none, data := .set #[] 0 (.fresh 0 0 (!w.params.followText "set-order")) }
theorem set_ofList {l : Addr} {items : Array Value} (ns : List Int) {Q : Value → Shared → Prop} (hh : A.handled = none) (hl : s.heap.IsList l items) (hi : IntsAre items.toList ns) (hb : ns.length + 1 < scanBound)
    (h : ∀ (h' : Heap) (tk c : Nat), SetR w h' s.heap.objs.size (fun j => decide (j ∈ ns)) c → c ≤ ns.length → (∀ b o, s.heap.get? b = some o → h'.get? b = some o) → Q (.ref s.heap.objs.size) { s with heap := h', toks := tk }) :
    wpAny (model P w) A (call (.type "set") [.ref l]) Q E s := by
  have hn : items.size = ns.length := (Array.length_toList (xs := items)).symm.trans hi.length
  obtain ⟨⟨cls, od, dat, sl⟩, ho, hc, nl, hd⟩ := hl
  dsimp only at hc hd
  subst hc
  subst hd
  have lt : l < s.heap.objs.size := Heap.lt_size ho
  have L1 : (s.heap.push (eSet w)).IsList l items := ⟨_, Heap.get?_push_of_some _ ho, rfl, nl, rfl⟩
  have ho1 : (s.heap.push (eSet w)).get? l = some { cls := .type "list", dict := od, data := .seq items nl, slots := sl } := Heap.get?_push_of_some _ ho
  have S1 : (s.heap.push (eSet w)).get? s.heap.objs.size = some (eSet w) := Heap.get?_push_size _ rfl
  have T1 : Shared.TypeIs { s with heap := s.heap.push (eSet w) } (.ref s.heap.objs.size) "set" := ⟨_, S1, rfl⟩
  have sz : (s.heap.push (eSet w)).objs.size = s.heap.objs.size + 1 := Heap.size_push ..
  have f1 := F.sub_list_set
  have f2 := F.sub_list_frozenset
  have f3 : (Value.type "list" == Value.type "dict") = false := by decide
  obtain ⟨cm, tm, mro⟩ := F.called_set.mro
  have q1 := F.called_set.made
  have q2 := F.called_set.sub
  have q3 := F.called_set.notType
  have q4 := F.called_set.canCreate
  have q5 := F.typeCall_set_1 (.ref l)
  have q6 := F.called_set.init.lookup
  have q7 := F.called_set.init.bind (.ref s.heap.objs.size)
  refine wpAny_call (codeAny_of_tree ?_)
  change wpAny _ _ (callAny (.type "set") _) _ _ _
  refine wpAny_pure ⟨Code.quiet_builtin _ (by decide +kernel), codeAny_builtin F.entry_type_call ?_⟩
  rw [Around.under_plain (weight_type_call_type "set" [.ref l] []) rfl]
  repeat (any_goals (first | assumption | wp_step))
  refine codeAny_mono (code_set_led1 (.ref l) (E := E) (Q₁ := fun obj s₁ => obj = .ref s.heap.objs.size ∧ s₁ = { s with heap := s.heap.push (eSet w) }) ⟨rfl, rfl⟩) ?_
  intro r1 s1 hr
  cases r1 with
  | error e => exact hr
  | ok fl =>
    cases fl with
    | next => exact hr.elim
    | brk => exact hr.elim
    | cont => exact hr.elim
    | ret obj =>
      have hr : obj = .ref s.heap.objs.size ∧ s1 = { s with heap := s.heap.push (eSet w) } := hr
      obtain ⟨e1, e2⟩ := hr
      subst e1
      subst e2
      repeat (any_goals (first | assumption | wp_step))
      refine codeAny_mono (codeAny_call_builtin (R := wants (fun r s₂ => r = .none ∧ ∃ h' tk c, s₂ = { s with heap := h', toks := tk } ∧ SetR w h' s.heap.objs.size (fun j => decide (j ∈ ns)) c ∧ c ≤ ns.length ∧ (∀ b o, s.heap.get? b = some o → h'.get? b = some o)) E)
        F.called_set.init.plain F.entry_set_init (check_set_init_1 T1 ?fill)) ?_
      case fill =>
        unfold Builtin.«set.__init__» noKeywords Builtin.Frozenset.updateFrom
        generalize hPI : pyIter = PI
        wp_walk
        subst hPI
        have h3 : A.in1.in1.in1.handled = none := hh
        have lI : l ≠ (s.heap.push (eSet w)).objs.size := by
          rw [sz]
          exact Nat.ne_of_lt (Nat.lt_succ_of_lt lt)
        have sf : s.heap.objs.size ∉ [(s.heap.push (eSet w)).objs.size, l] := by
          rw [sz]
          simp only [List.mem_cons, List.not_mem_nil, or_false, not_or]
          exact ⟨Nat.ne_of_lt (Nat.lt_succ_self _), Nat.ne_of_gt lt⟩
        apply wpAny_pyIter_list L1
        apply wpAny_bind
        apply wpAny_runValue
        apply set_update_ints ((Walks.list h3 _ l lI items).toS) s.heap.objs.size sf ns hn hb (k := items.size) (i := 0)
        · intro i v hv
          have hlt : i < ns.length := by
            rw [← hn]
            exact (Array.getElem?_eq_some_iff.mp hv).1
          obtain ⟨t, e⟩ := IntsAre.int_at hi i v (by rw [Array.getElem?_toList]; exact hv)
          rw [List.getD_eq_getElem?_getD, List.getElem?_eq_getElem hlt] at e
          exact ⟨ns[i], t, List.getElem?_eq_getElem hlt, e⟩
        · rfl
        · exact Nat.zero_le _
        · exact ⟨⟨_, Heap.get?_push_size _ rfl, rfl, rfl⟩, L1.push _⟩
        · exact ⟨0, Nat.le_refl 0, setR_new_at (Heap.get?_push_of_some _ S1)⟩
        · intro s2 c m hcc R2
          obtain ⟨h', g2, d2, t2, os2⟩ := s2
          obtain rfl : g2 = s.gens := m.gens
          obtain rfl : d2 = s.drawn := m.drawn
          obtain rfl : os2 = s.os := m.os
          apply wpAny_pure
          apply wpAny_pure
          refine ⟨rfl, h', t2, c, rfl, R2, by rw [← hn]; exact hcc, fun b o e => ?_⟩
          have lb : b < s.heap.objs.size := Heap.lt_size e
          refine m.heap b o ?_ (Heap.get?_push_of_some _ (Heap.get?_push_of_some _ e))
          rw [sz]
          simp only [List.mem_cons, List.not_mem_nil, or_false, not_or]
          exact ⟨Nat.ne_of_lt lb, Nat.ne_of_lt (Nat.lt_succ_of_lt lb)⟩

      intro r2 s2 hr
      cases r2 with
      | error e => exact hr
      | ok fl =>
        cases fl with
        | next => exact hr.elim
        | brk => exact hr.elim
        | cont => exact hr.elim
        | ret obj =>
          obtain ⟨e0, h', tk, c, e1, R, hcc, kp⟩ := hr
          subst e0
          subst e1
          repeat (any_goals (first | assumption | wp_step))
          exact h h' tk c R hcc kp
end
def rSetL (K : PySem.W.Frag) (w : World) : List V → Hp → VK → Prop := fun vs H Q => ∃ (a : Addr) (ns : List Int), vs = [.ref a] ∧ SqL K H a (ns.map V.int) ∧ ns.length + 1 < scanBound ∧ ∀ p c, c ≤ ns.length → H p = none → Q (.ref p) (upd H p (SetO w p (fun j => decide (j ∈ ns)) c))
theorem cr_setL {X : Cx} (hc : X.calm = true) : CallR X (.type "set") (rSetL X.K X.w) := by
  intro pins s σ H vs us Q I r h
  obtain ⟨a, ns, rfl, hs, hb, q⟩ := h
  obtain ⟨its, rv, hl, hz⟩ := I.list hs
  rw [Vals.ref1 r]
  refine set_ofList ns (I.ok.hd hc) hl.isList (by simpa using rv.ints) hb fun h' tk c R hcc k => ?_
  exact ⟨.ref _, upd H s.heap.objs.size (SetO X.w s.heap.objs.size (fun j => decide (j ∈ ns)) c), I.laid (t' := tk) k (Nat.le_refl _) (setO_new R), rfl, q _ c hcc (I.hok.fresh (Nat.le_refl _))⟩
theorem insS_mem (i k : Int) : ∀ l : List Int, k ∈ Mi.insS i l ↔ k = i ∨ k ∈ l
  | [] => by simp [Mi.insS]
  | j :: r => by
    unfold Mi.insS
    split
    · simp
    · split
      · rename_i h1 h2
        subst h2
        simp
      · rw [List.mem_cons, insS_mem i k r, List.mem_cons]
        constructor
        · rintro (h | h | h)
          · exact .inr (.inl h)
          · exact .inl h
          · exact .inr (.inr h)
        · rintro (h | h | h)
          · exact .inr (.inl h)
          · exact .inl h
          · exact .inr (.inr h)
theorem insS_srt (i : Int) : ∀ l : List Int, l.Pairwise (· < ·) → (Mi.insS i l).Pairwise (· < ·)
  | [], _ => by simp [Mi.insS]
  | j :: r, h => by
    obtain ⟨h1, h2⟩ := List.pairwise_cons.mp h
    unfold Mi.insS
    split
    · rename_i hl
      refine List.pairwise_cons.mpr ⟨fun k hk => ?_, h⟩
      rcases List.mem_cons.mp hk with e | hk
      · rw [e]
        exact hl
      · exact Int.lt_trans hl (h1 k hk)
    · split
      · exact h
      · refine List.pairwise_cons.mpr ⟨fun k hk => ?_, insS_srt i r h2⟩
        rcases (insS_mem i k r).mp hk with e | hk
        · omega
        · exact h1 k hk
theorem sortS_srt : ∀ ns : List Int, (Mi.sortS ns).Pairwise (· < ·)
  | [] => List.Pairwise.nil
  | i :: ns => insS_srt i _ (sortS_srt ns)
theorem sortS_mem (k : Int) : ∀ ns : List Int, k ∈ Mi.sortS ns ↔ k ∈ ns
  | [] => by simp [Mi.sortS]
  | i :: ns => by
    show k ∈ Mi.insS i (Mi.sortS ns) ↔ _
    rw [insS_mem, sortS_mem k ns, List.mem_cons]
theorem srt_one : ∀ {l m : List Int}, l.Pairwise (· < ·) → m.Pairwise (· < ·) → (∀ k, k ∈ l ↔ k ∈ m) → l = m
  | [], [], _, _, _ => rfl
  | [], y :: m, _, _, h => by
    have := (h y).mpr List.mem_cons_self
    simp at this
  | x :: l, [], _, _, h => by
    have := (h x).mp List.mem_cons_self
    simp at this
  | x :: l, y :: m, hl, hm, h => by
    obtain ⟨l1, l2⟩ := List.pairwise_cons.mp hl
    obtain ⟨m1, m2⟩ := List.pairwise_cons.mp hm
    have e : x = y := by
      have a := (h x).mp List.mem_cons_self
      have b := (h y).mpr List.mem_cons_self
      rcases List.mem_cons.mp a with a | a
      · exact a
      · rcases List.mem_cons.mp b with b | b
        · exact b.symm
        · have := m1 x a
          have := l1 y b
          omega
    subst e
    rw [srt_one l2 m2 fun k => ?_]
    constructor
    · intro hk
      have := l1 k hk
      rcases List.mem_cons.mp ((h k).mp (List.mem_cons_of_mem _ hk)) with e | q
      · omega
      · exact q
    · intro hk
      have := m1 k hk
      rcases List.mem_cons.mp ((h k).mpr (List.mem_cons_of_mem _ hk)) with e | q
      · omega
      · exact q
theorem ints_of {K : PySem.W.Frag} {T : Tab} {α F} : ∀ {xs : List Mi.D} {vs : List V} {ns : List Int}, Rps K T α F xs vs → Mi.intsOf xs = some ns → vs = ns.map V.int
  | [], _, _, r, e => by
    cases e
    exact r
  | x :: xs, _, ns, r, e => by
    obtain ⟨v, s, rfl, r1, r2⟩ := r
    cases x <;> simp only [Mi.intsOf, reduceCtorEq, Option.map_eq_some_iff] at e
    obtain ⟨ms, e1, rfl⟩ := e
    have ev : v = .int _ := r1
    rw [ev, ints_of r2 e1]
    rfl
section
variable {X : Cx} {T : Tab} {W : WX} {a : Expr} {ea : Mi.E} {pos p p2 pos2 : Pos}
theorem bl_sortSet (hc : X.calm = true) (hg : Gl X "sorted") (hm : X.mg "sorted" = none) (hg2 : Gl X "set") (hm2 : X.mg "set" = none) (ha : PE X a (MV X.K T W ea)) (na : starEach [a] X.env = (false, eval a X.env) :: starEach [] X.env := by rfl)
    (na2 : starEach [.Call (.Name "set" p2) [a] [] pos2] X.env = (false, eval (.Call (.Name "set" p2) [a] [] pos2) X.env) :: starEach [] X.env := by rfl) :
    PE X (.Call (.Name "sorted" p) [.Call (.Name "set" p2) [a] [] pos2] [] pos) (ML X.K T W (Mi.lSortSet ea)) := by
  refine PE.imp (pe_callB (cr_sortedSet hc) hg hm boot_sorted (pa_cons (pe_callTy (cr_setL hc) hg2 hm2 PyProof.Rows.boot_set (pa_cons ha pa_nil na) (he := na)) pa_nil na2) (he := na2)) fun σ H Q h => ?_
  obtain ⟨α, F, env, cs, rc, ev, h⟩ := h
  refine ⟨α, F, env, cs, rc, ev, h.bnd.mono fun α1 F1 cs1 H1 x lt1 rc1 o1 v r1 => ?_⟩
  obtain ⟨xs, e, _⟩ := o1.out rc1
  rw [e] at o1
  simp only [Option.bind_eq_some_iff] at e
  obtain ⟨ns, ⟨ys, e1, e2⟩, e3⟩ := e
  by_cases hl : ns.length < 64
  · rw [if_pos hl] at e3
    cases e3
    obtain ⟨q, vs, rfl, s, r⟩ := lstOf_of rc1 r1 e1
    rw [ints_of r e2] at s
    refine ⟨q, ns, rfl, s, by unfold scanBound; omega, fun p c hcc hp => ?_⟩
    refine ⟨p, _, c, rfl, upd_same, by omega, fun ms p2 h1 h2 _ hp2 => ?_⟩
    have em : ms = Mi.sortS ns := srt_one h1 (sortS_srt ns) fun k => by
      rw [h2 k, sortS_mem]
      exact decide_eq_true_iff
    subst em
    have rc2 := rc1.alloc (o := SetO X.w p (fun j => decide (j ∈ ns)) c) hp
    have nx2 := Nx.alloc (α := α1) (F := F1) (o := SetO X.w p (fun j => decide (j ∈ ns)) c) hp
    obtain ⟨hf, ha⟩ := rc2.new_out hp2
    exact o1.v (nx2.trans (Nx.alloc hp2)) (rc2.alloc hp2) p2 _ (lt1.dom p2 (nx2.dom p2 hp2)) upd_same hf ha (Rps.of_ints _)
  · rw [if_neg hl] at e3
    cases e3
end
end Br
end
section
set_option Elab.async false
set_option linter.all false
set_option maxRecDepth 100000
set_option maxHeartbeats 4000000
namespace Br
open PySem PySem.Spec PyProof.Rows L2
theorem hu65_of {A : Around} {k : Nat} (hr : Room k A) : A.units + 65 < cLine := by have := hr.un; omega
theorem hu66_of {A : Around} {k : Nat} (hr : Room k A) : A.units + 66 < cLine := by have := hr.un; omega
section
variable {T : Tab} {K : PySem.W.Frag}
theorem o_min2 : Op2 K T (fun v w H Q => ∃ i j, [v, w] = [V.int i, V.int j] ∧ Q (.int (if j < i then j else i)) H) Mi.oMin2 := by
  intro α F cs H x y z v w rc rx ry e Q q
  unfold Mi.oMin2 at e
  split at e
  · cases e
    have ev : v = .int _ := rx
    have ew : w = .int _ := ry
    subst ev
    subst ew
    exact ⟨_, _, rfl, q α F H _ (Nx.refl _ _ _) rc rfl⟩
  · cases e
theorem o_max2 : Op2 K T (fun v w H Q => ∃ i j, [v, w] = [V.int i, V.int j] ∧ Q (.int (if j > i then j else i)) H) Mi.oMax2 := by
  intro α F cs H x y z v w rc rx ry e Q q
  unfold Mi.oMax2 at e
  split at e
  · cases e
    have ev : v = .int _ := rx
    have ew : w = .int _ := ry
    subst ev
    subst ew
    exact ⟨_, _, rfl, q α F H _ (Nx.refl _ _ _) rc rfl⟩
  · cases e
end
theorem rps_ints {K : PySem.W.Frag} {T : Tab} {α : List Addr} {F : Hp} : ∀ ns : List Int, Rps K T α F (ns.map Mi.D.int) (ns.map V.int)
  | [] => rfl
  | n :: ns => ⟨_, _, rfl, rfl, rps_ints ns⟩
theorem sp_script {K : PySem.W.Frag} {T : Tab} {f : Mi.Fn} {H : Hp} {a : Addr} {ns : List Int} (hS : SqL K H a (ns.map V.int)) (h : ∃ cs, f [.fro (ns.map .int)] [] = some (.v (.bl true) cs)) :
    spM K T f [.ref a] H (fun v _ => v = .bl true) (fun _ _ _ => False) := by
  obtain ⟨cs, e⟩ := h
  refine ⟨[], H, [], [.fro (ns.map .int)], ⟨fun _ _ h => h, rfl, List.nodup_nil, fun _ h => absurd h List.not_mem_nil, fun _ _ _ h _ => by simp at h⟩, ⟨_, _, rfl, ⟨a, _, rfl, hS, rps_ints ns⟩, rfl⟩, ?_⟩
  rw [e]
  exact fun α' F' H' _ _ v r => r
end Br
end
section
set_option Elab.async false
set_option linter.all false
set_option maxRecDepth 100000
set_option maxHeartbeats 4000000
namespace Br
open PySem PySem.Spec PyProof.Rows L2
structure ObjK (K : PySem.W.Frag) (T : Tab) (c : Nat) (C : Addr) (nm : List Str) : Prop where
  t : T c = some (C, nm)
  cl : Cls K C
  na : ∀ f ∈ nm, NoAttr K C f
  nd : nm.Nodup
  few : nm.length < 1000
section
variable {K : PySem.W.Frag} {T : Tab} {α α' : List Addr} {F F' H H' : Hp} {cs cs' : Mi.Cs}
theorem objOf_of {x : Mi.D} {v : V} {c : Nat} {fs : List Mi.D} (rc : RC K T α F cs H) (rx : Rp K T α F x v) (h : Mi.objOf cs x = some (c, fs)) :
    ∃ (a C dx : Addr) (nm : List Str) (gs : List (Str × V)), v = .ref a ∧ T c = some (C, nm) ∧ H a = some (.ins C dx gs) ∧ gs.map (·.1) = nm.take gs.length ∧ Rps K T α F fs (gs.map (·.2)) := by
  cases x <;> simp only [Mi.objOf, reduceCtorEq] at h
  · obtain ⟨a, C, dx, nm, gs, e, t, f, m, q⟩ := rx
    cases h
    exact ⟨a, C, dx, nm, gs, e, t, rc.same _ _ f, m, q⟩
  · rename_i k
    obtain ⟨a, ea, rfl⟩ := rx
    cases hc : cs[k]? with
    | none => rw [hc] at h; cases h
    | some c0 =>
      rw [hc] at h
      cases c0 <;> simp only [reduceCtorEq, Option.some.injEq, Prod.mk.injEq] at h
      obtain ⟨rfl, rfl⟩ := h
      obtain ⟨C, dx, nm, gs, t, f, m, q⟩ := rc.ok k a _ ea hc
      exact ⟨a, C, dx, nm, gs, rfl, t, f, m, q⟩
theorem lookup_keys : ∀ {gs : List (Str × V)} {i : Nat} {f : Str} {v : V}, (gs.map (·.1)).Nodup → gs[i]? = some (f, v) → gs.lookup f = some v
  | [], _, _, _, _, h => by simp at h
  | (g, u) :: r, 0, f, v, _, h => by
    have e : (g, u) = (f, v) := Option.some.inj h
    cases e
    simp [List.lookup]
  | (g, u) :: r, i + 1, f, v, hn, h => by
    have hn' := List.nodup_cons.mp hn
    have hr : r[i]? = some (f, v) := h
    have : ¬ f = g := fun e => hn'.1 (e ▸ List.mem_map.mpr ⟨(f, v), List.mem_of_getElem? hr, rfl⟩)
    have hb : (f == g) = false := beq_eq_false_iff_ne.mpr this
    simp only [List.lookup, hb]
    exact lookup_keys hn'.2 hr
theorem take_key {nm : List Str} {gs : List (Str × V)} {i : Nat} {f : Str} {p : Str × V} (h : gs.map (·.1) = nm.take gs.length) (hf : nm[i]? = some f) (hp : gs[i]? = some p) : p.1 = f := by
  have h1 : (gs.map (·.1))[i]? = some p.1 := by rw [List.getElem?_map, hp]; rfl
  have hi := (List.getElem?_eq_some_iff.mp hp).1
  rw [h, List.getElem?_take, if_pos hi, hf] at h1
  exact (Option.some.inj h1).symm
theorem no_key {nm : List Str} {gs : List (Str × V)} {m : Str} (h : gs.map (·.1) = nm.take gs.length) (hm : m ∉ nm) : gs.lookup m = none := by
  have : ∀ gs : List (Str × V), m ∉ gs.map (·.1) → gs.lookup m = none := fun gs => by
    induction gs with
    | nil => intro _; rfl
    | cons p r ih =>
      obtain ⟨g, u⟩ := p
      intro hh
      have h1 : ¬ m = g := fun e => hh (by rw [e]; exact List.mem_cons_self)
      have hb : (m == g) = false := beq_eq_false_iff_ne.mpr h1
      simp only [List.lookup, hb]
      exact ih fun hr => hh (List.mem_cons_of_mem _ hr)
  exact this gs fun hh => hm (List.mem_of_mem_take (h ▸ hh))
theorem putF_set : ∀ {gs : List (Str × V)} {i : Nat} {f : Str} {v : V} (y : V), (gs.map (·.1)).Nodup → gs[i]? = some (f, v) → putF f y gs = gs.set i (f, y)
  | [], _, _, _, _, _, h => by simp at h
  | (g, u) :: r, 0, f, v, y, _, h => by
    have e : (g, u) = (f, v) := Option.some.inj h
    cases e
    show (if g = g then (g, y) :: r else _) = _
    rw [if_pos rfl]
    rfl
  | (g, u) :: r, i + 1, f, v, y, hn, h => by
    have hn' := List.nodup_cons.mp hn
    have hr : r[i]? = some (f, v) := h
    have : ¬ g = f := fun e => hn'.1 (e ▸ List.mem_map.mpr ⟨(f, v), List.mem_of_getElem? hr, rfl⟩)
    show (if g = f then _ else (g, u) :: putF f y r) = _
    rw [if_neg this, putF_set y hn'.2 hr]
    rfl
theorem putF_new : ∀ {gs : List (Str × V)} {f : Str} (y : V), f ∉ gs.map (·.1) → putF f y gs = gs ++ [(f, y)]
  | [], _, _, _ => rfl
  | (g, u) :: r, f, y, h => by
    have : ¬ g = f := fun e => h (by rw [← e]; exact List.mem_cons_self)
    show (if g = f then _ else (g, u) :: putF f y r) = _
    rw [if_neg this, putF_new y fun hr => h (List.mem_cons_of_mem _ hr)]
    rfl
end
section
variable {X : Cx} {T : Tab} {W : WX} {a b o e value : Expr} {ea eb ec : Mi.E} {pos pos' apos p : Pos} {f m x : Str} {c i : Nat} {C : Addr} {nm : List Str}
theorem o_fld {K : PySem.W.Frag} (O : ObjK K T c C nm) (hf : nm[i]? = some f) : Op1 K T (fun x H Q => ∃ a C dx fs v, x = V.ref a ∧ H a = some (.ins C dx fs) ∧ Cls K C ∧ NoAttr K C f ∧ fs.lookup f = some v ∧ Q v H) (Mi.oFld c i) := by
  intro α F cs H x z v rc rx e Q q
  unfold Mi.oFld at e
  cases ho : Mi.objOf cs x with
  | none => rw [ho] at e; cases e
  | some p =>
    obtain ⟨c', fs⟩ := p
    rw [ho] at e
    obtain ⟨a, C', dx, nm', gs, rfl, t, hH, hm, r⟩ := objOf_of rc rx ho
    simp only [Option.bind_some] at e
    split at e
    · rename_i hc
      subst hc
      rw [O.t] at t
      cases t
      obtain ⟨u, hu, ru⟩ := r.get e
      rw [List.getElem?_map] at hu
      obtain ⟨pr, hp, rfl⟩ := Option.map_eq_some_iff.mp hu
      have k := take_key hm hf hp
      have nd : (gs.map (·.1)).Nodup := by
        rw [hm]
        exact O.nd.sublist (List.take_sublist _ _)
      refine ⟨a, C, dx, gs, pr.2, rfl, hH, O.cl, O.na f (List.mem_of_getElem? hf), lookup_keys (i := i) nd ?_, q _ _ _ _ (Nx.refl _ _ _) rc ru⟩
      rw [hp, ← k]
    · cases e
theorem br_fld (O : ObjK X.K T c C nm) (hf : nm[i]? = some f) (h : PE X a (MV X.K T W ea)) (hb : attributeBase a f X.env (eval a X.env) = eval a X.env := by rfl) : PE X (.Attribute a f pos) (MV X.K T W (Mi.e1 (Mi.oFld c i) ea)) :=
  PE.imp (pe_fld h hb) fun σ H Q h => mv_un (r := fun x H Q => ∃ a C dx fs v, x = V.ref a ∧ H a = some (.ins C dx fs) ∧ Cls X.K C ∧ NoAttr X.K C f ∧ fs.lookup f = some v ∧ Q v H) (o_fld O hf) σ H Q h
theorem ms_fld {K : PySem.W.Frag} (O : ObjK K T c C nm) (hf : nm[i]? = some f) (D : Ends) (σ : L2.St) (H : Hp) (h : MS K T W (Mi.sPutO c i ea ec) D σ H) : sFld K (MV K T W ea) (MV K T W ec) f D σ H := by
  obtain ⟨α, F, env, cs, rc, ev, h⟩ := h
  refine ⟨α, F, env, cs, rc, ev, (OutS.thn ev h).mono fun α1 F1 cs1 H1 d lt1 rc1 o1 u r1 => ?_⟩
  have ev1 := ev.mono lt1.toLt
  refine ⟨α1, F1, env, cs1, rc1, ev1, (OutS.thn ev1 o1).mono fun α2 F2 cs2 H2 x lt2 rc2 o2 v r2 => ?_⟩
  have ev2 := ev1.mono lt2.toLt
  have r1' := Rp.mono lt2.toLt _ _ r1
  cases hpo : Mi.putO c i cs2 x d with
  | none => rw [hpo] at o2; exact o2.elim
  | some cs4 =>
  rw [hpo] at o2
  have o2' : ∀ F3 H3, Nx α2 F2 H2 α2 F3 H3 → RC K T α2 F3 cs4 H3 → D.nx σ H3 := fun F3 H3 nx3 rc3 => o2 _ _ _ σ nx3 rc3 (ev2.mono nx3.toLt)
  clear o2
  cases x <;> simp only [Mi.putO, reduceCtorEq] at hpo
  rename_i k
  obtain ⟨a, ea', rfl⟩ := r2
  cases hc : cs2[k]? with
  | none => rw [hc] at hpo; cases hpo
  | some c0 =>
    rw [hc] at hpo
    cases c0 with
    | lst _ => cases hpo
    | dct _ _ => cases hpo
    | lck _ _ => cases hpo
    | tdc _ _ => cases hpo
    | obj c' fs =>
      simp only at hpo
      split at hpo
      · rename_i hcc
        subst hcc
        obtain ⟨C', dx, nm', gs, t, hH, hm, r⟩ := rc2.ok k a _ ea' hc
        rw [O.t] at t
        cases t
        have nd : (gs.map (·.1)).Nodup := by
          rw [hm]
          exact O.nd.sublist (List.take_sublist _ _)
        have gl : gs.length = fs.length := by
          have := r.length
          rwa [List.length_map] at this
        have few : gs.length ≤ nm.length := by
          have := congrArg List.length hm
          rw [List.length_map, List.length_take] at this
          omega
        have hfl := (List.getElem?_eq_some_iff.mp hf).1
        refine ⟨a, C, dx, gs, rfl, hH, O.cl, O.na f (List.mem_of_getElem? hf), Nat.lt_of_le_of_lt few O.few, ?_⟩
        split at hpo
        · rename_i hi
          cases hpo
          obtain ⟨pr, hp⟩ : ∃ pr, gs[i]? = some pr := ⟨_, List.getElem?_eq_getElem (by omega)⟩
          have k1 := take_key hm hf hp
          have pf : putF f u gs = gs.set i (f, u) := putF_set (v := pr.2) u nd (by rw [hp, ← k1])
          obtain ⟨rc3, nx3⟩ := rc2.write (c := .obj c' (fs.set i d)) (o := .ins C dx (gs.set i (f, u))) ea' (fun _ _ z => by rw [hH] at z; cases z) ⟨C, dx, nm, gs.set i (f, u), O.t, upd_same, by
            rw [List.length_set, List.map_set, ← hm]
            refine List.ext_getElem? fun j => ?_
            rw [List.getElem?_set]
            split
            · rename_i e
              subst e
              rw [if_pos (by rw [List.length_map]; omega), List.getElem?_map, hp]
              show some f = some pr.1
              rw [k1]
            · rfl, by
            rw [List.map_set]
            exact r.set r1' i⟩
          rw [pf]
          exact o2' _ _ nx3 rc3
        · split at hpo
          · rename_i he
            cases hpo
            have pn : f ∉ gs.map (·.1) := fun hh => by
              rw [hm] at hh
              obtain ⟨j, hj⟩ := List.getElem?_of_mem hh
              rw [List.getElem?_take] at hj
              split at hj
              · have := (List.getElem?_inj hfl O.nd).mp (hf.trans hj.symm)
                omega
              · cases hj
            have pf : putF f u gs = gs ++ [(f, u)] := putF_new u pn
            obtain ⟨rc3, nx3⟩ := rc2.write (c := .obj c' (fs ++ [d])) (o := .ins C dx (gs ++ [(f, u)])) ea' (fun _ _ z => by rw [hH] at z; cases z) ⟨C, dx, nm, gs ++ [(f, u)], O.t, upd_same, by
              rw [List.length_append, List.map_append, hm, List.length_singleton, List.take_add_one, show nm[gs.length]? = some f by rw [gl, ← he]; exact hf]
              rfl, by
              rw [List.map_append]
              exact r.append ⟨u, [], rfl, r1', rfl⟩⟩
            rw [pf]
            exact o2' _ _ nx3 rc3
          · cases hpo
      · cases hpo
theorem bs_fld (O : ObjK X.K T c C nm) (hf : nm[i]? = some f) (ho : PE X o (MV X.K T W ea)) (he : PE X value (MV X.K T W ec)) (hs : swapsWith value (some (.Attribute o f pos')) pos.line X.env = pure false := by rfl) :
    PS X (.Assign [.Attribute o f pos'] value pos) (MS X.K T W (Mi.sPutO c i ea ec)) := PS.imp (ps_fld ho he hs) (ms_fld O hf)
end
end Br
end
section
set_option Elab.async false
set_option linter.all false
set_option maxRecDepth 100000
set_option maxHeartbeats 4000000
namespace Br
open PySem PySem.Spec PyProof.Rows L2
section
variable {X : Cx} {T : Tab} {W : WX} {k c : Nat} {f C : Addr} {fd : FuncData} {ps nm : List Str} {sp : Sp} {g : Mi.Fn} {x m : Str} {p pos apos : Pos} {e o : Expr} {es : List Expr} {ta : TE} {t : TA} {ea : Mi.E} {l : Mi.EL}
def tMS (C : Addr) (m : Str) (sp : Sp) (E : L2.St → XK) (ta : TE) (t : TA) : TE := fun σ H Q => ta σ H fun x H1 => (∃ a dx fs, x = .ref a ∧ H1 a = some (.ins C dx fs) ∧ fs.lookup m = none) ∧ t σ H1 fun vs H2 => sp (x :: vs) H2 Q (E σ)
theorem pe_mS {CX : CXT} {E : L2.St → XK} {pl : Sem Bool} (he : PE X o ta) (cl : Cls X.K C) (hm : Meth X.K C m f) (F : FnOk X.prog X.w X.K X.mg X.base CX k f fd ps sp) (hr : Room k X.A) (hb : Binds X.K fd ps []) (hx : ∀ σ, PassesAt CX X σ (E σ)) (ha : PA X (e :: es) t)
    (hst : starEach (e :: es) X.env = (false, eval e X.env) :: starEach es X.env := by rfl) (hpl : (backTo pos (starEach es X.env)).any (·.1) = false := by rfl)
    (ht : eval (.Call (.Attribute o m apos) (e :: es) [] pos) X.env = (do
      let v ← eval o X.env
      standAt apos.atName
      let (fn, self) ← holding [v] (getMethod v m pl)
      callWith pos fn self (backTo pos (starEach (e :: es) X.env)) (backToKw pos (keywordEach [] X.env))) := by rfl) :
    PE X (.Call (.Attribute o m apos) (e :: es) [] pos) (tMS C m sp E ta t) := by
  refine ⟨fun pins s σ H Q I h => PySem.W.methodCall_KW (pl := pl) (thn (he.run pins s σ H _ I h) ?_) ht⟩
  rintro u s1 ⟨x, H1, I1, rx, ⟨a, dx, fs, rfl, ea, lo⟩, q⟩
  cases (show u = Value.ref a from rx)
  refine getmeth_ok I1 ea cl hm lo (PySem.W.callWith_K (first := [.ref a]) (h₀ := X.base) I.ok.mod.kin hm.kp (thn (ha.run pos pins s1 σ H1 _ I1 q) ?_) hst hpl)
  rintro us s2 ⟨vs, H2, I2, r, q2⟩
  exact ⟨I2.kIn, run_fnS (us := .ref a :: us) (vs := .ref a :: vs) F hr hb (hx σ) I2 (.cons rfl r) q2⟩
theorem pe_mS0 {CX : CXT} {E : L2.St → XK} {pl : Sem Bool} (he : PE X o ta) (cl : Cls X.K C) (hm : Meth X.K C m f) (F : FnOk X.prog X.w X.K X.mg X.base CX k f fd ps sp) (hr : Room k X.A) (hb : Binds X.K fd ps []) (hx : ∀ σ, PassesAt CX X σ (E σ))
    (ht : eval (.Call (.Attribute o m apos) [] [] pos) X.env = (do
      let v ← eval o X.env
      standAt apos.atName
      let (fn, self) ← holding [v] (getMethod v m pl)
      callWith pos fn self (backTo pos (starEach [] X.env)) (backToKw pos (keywordEach [] X.env))) := by rfl) :
    PE X (.Call (.Attribute o m apos) [] [] pos) (tMS C m sp E ta tNil) := by
  refine ⟨fun pins s σ H Q I h => PySem.W.methodCall_KW (pl := pl) (thn (he.run pins s σ H _ I h) ?_) ht⟩
  rintro u s1 ⟨x, H1, I1, rx, ⟨a, dx, fs, rfl, ea, lo⟩, q⟩
  cases (show u = Value.ref a from rx)
  exact getmeth_ok I1 ea cl hm lo (PySem.W.callWith_K0 (first := [.ref a]) I1.kIn hm.kp (run_fnS (us := [.ref a]) (vs := [.ref a]) F hr hb (hx σ) I1 (.cons rfl .nil) q))
theorem isO_of {K : PySem.W.Frag} {α F cs H} {x : Mi.D} {v : V} (O : ObjK K T c C nm) (rc : RC K T α F cs H) (rx : Rp K T α F x v) (h : Mi.isO c cs x = true) (hm : m ∉ nm) : ∃ a dx fs, v = .ref a ∧ H a = some (.ins C dx fs) ∧ fs.lookup m = none := by
  unfold Mi.isO at h
  cases ho : Mi.objOf cs x with
  | none => rw [ho] at h; cases h
  | some p =>
    obtain ⟨c', fs⟩ := p
    rw [ho] at h
    have hc : c' = c := of_decide_eq_true h
    subst hc
    obtain ⟨a, C', dx, nm', gs, rfl, t, hH, hm', r⟩ := objOf_of rc rx ho
    rw [O.t] at t
    cases t
    exact ⟨a, dx, gs, rfl, hH, no_key hm' hm⟩
theorem mv_meth {K : PySem.W.Frag} (O : ObjK K T c C nm) (hm : m ∉ nm) (σ : L2.St) (H : Hp) (Q : VK) (h : MV K T W (Mi.meth c g ea l) σ H Q) : tMS C m (spM K T g) (WE W) (MV K T W ea) (MA K T W l) σ H Q := by
  obtain ⟨α, F, env, cs, rc, ev, h⟩ := h
  refine ⟨α, F, env, cs, rc, ev, h.bnd.mono fun α1 F1 cs1 H1 x lt1 rc1 o1 v r1 => ?_⟩
  by_cases hi : Mi.isO c cs1 x = true
  · rw [if_pos hi] at o1
    refine ⟨isO_of O rc1 r1 hi hm, α1, F1, env, cs1, rc1, ev.mono lt1.toLt, o1.bnd.mono fun α2 F2 cs2 H2 xs lt2 rc2 o2 vs r2 => ?_⟩
    exact ⟨α2, F2, cs2, x :: xs, rc2, ⟨v, vs, rfl, Rp.mono lt2.toLt _ _ r1, r2⟩, o2.at⟩
  · rw [if_neg hi] at o1
    exact o1.elim
theorem mv_meth0 {K : PySem.W.Frag} (O : ObjK K T c C nm) (hm : m ∉ nm) (σ : L2.St) (H : Hp) (Q : VK) (h : MV K T W (Mi.meth c g ea Mi.aNil) σ H Q) : tMS C m (spM K T g) (WE W) (MV K T W ea) tNil σ H Q := by
  obtain ⟨α, F, env, cs, rc, ev, h⟩ := h
  refine ⟨α, F, env, cs, rc, ev, h.bnd.mono fun α1 F1 cs1 H1 x lt1 rc1 o1 v r1 => ?_⟩
  by_cases hi : Mi.isO c cs1 x = true
  · rw [if_pos hi] at o1
    exact ⟨isO_of O rc1 r1 hi hm, α1, F1, cs1, [x], rc1, ⟨v, [], rfl, r1, rfl⟩, Out.at o1⟩
  · rw [if_neg hi] at o1
    exact o1.elim
theorem br_meth (O : ObjK X.K T c C nm) (hn : m ∉ nm) (hm : Meth X.K C m f) (F : FnOk X.prog X.w X.K X.mg X.base (L2.CX X.prog X.w) k f fd ps (spM X.K T g)) (hr : Room k X.A) (hb : Binds X.K fd ps []) (tk : Takes X W) (ho : PE X o (MV X.K T W ea)) (ha : PA X (e :: es) (MA X.K T W l))
    {pl : Sem Bool} (hst : starEach (e :: es) X.env = (false, eval e X.env) :: starEach es X.env := by rfl) (hpl : (backTo pos (starEach es X.env)).any (·.1) = false := by rfl)
    (ht : eval (.Call (.Attribute o m apos) (e :: es) [] pos) X.env = (do
      let v ← eval o X.env
      standAt apos.atName
      let (fn, self) ← holding [v] (getMethod v m pl)
      callWith pos fn self (backTo pos (starEach (e :: es) X.env)) (backToKw pos (keywordEach [] X.env))) := by rfl) :
    PE X (.Call (.Attribute o m apos) (e :: es) [] pos) (MV X.K T W (Mi.meth c g ea l)) :=
  PE.imp (pe_mS (pl := pl) ho O.cl hm F hr hb (fun σ => passAt tk σ) ha hst hpl ht) (mv_meth O hn)
theorem br_meth0 (O : ObjK X.K T c C nm) (hn : m ∉ nm) (hm : Meth X.K C m f) (F : FnOk X.prog X.w X.K X.mg X.base (L2.CX X.prog X.w) k f fd ps (spM X.K T g)) (hr : Room k X.A) (hb : Binds X.K fd ps []) (tk : Takes X W) (ho : PE X o (MV X.K T W ea))
    {pl : Sem Bool} (ht : eval (.Call (.Attribute o m apos) [] [] pos) X.env = (do
      let v ← eval o X.env
      standAt apos.atName
      let (fn, self) ← holding [v] (getMethod v m pl)
      callWith pos fn self (backTo pos (starEach [] X.env)) (backToKw pos (keywordEach [] X.env))) := by rfl) :
    PE X (.Call (.Attribute o m apos) [] [] pos) (MV X.K T W (Mi.meth c g ea Mi.aNil)) :=
  PE.imp (pe_mS0 (pl := pl) ho O.cl hm F hr hb (fun σ => passAt tk σ) ht) (mv_meth0 O hn)
def tMkS (C : Addr) (sp : Sp) (E : L2.St → XK) (t : TA) : TE := fun σ H Q => t σ H fun vs H1 => ∀ x dx, H1 x = none → H1 dx = none → dx ≠ x → sp (.ref x :: vs) (upd (upd H1 dx (.own x)) x (.ins C dx [])) (fun v H2 => v = .non ∧ Q (.ref x) H2) (E σ)
theorem run_mkS {CX : CXT} {E : XK} {pins : List (Addr × Obj)} {σ : L2.St} {H : Hp} {s : Shared} {Q : VK} {us : List Value} {vs : List V} (M : Mk X.K C f) (F : FnOk X.prog X.w X.K X.mg X.base CX k f fd ps sp) (hr : Room (k + 1) X.A) (hb : Binds X.K fd ps [])
    (hx : PassesAt CX X σ E) (I : Inv X pins σ H s) (r : Vals vs us)
    (h : ∀ x dx, H x = none → H dx = none → dx ≠ x → sp (.ref x :: vs) (upd (upd H dx (.own x)) x (.ins C dx [])) (fun v H2 => v = .non ∧ Q (.ref x) H2) E) :
    wpAny (model X.prog X.w) X.A (call (.ref C) us) (EP X pins σ Q) X.xe s := by
  obtain ⟨n, hn⟩ : ∃ n, n = s.heap.objs.size := ⟨_, rfl⟩
  have g := h (n + 1) n (I.hok.fresh (by rw [hn]; exact Nat.le_succ _)) (I.hok.fresh (by rw [hn]; exact Nat.le_refl _)) (Nat.ne_of_lt (Nat.lt_succ_self n))
  have I2 := Inv.made (C := C) I
  rw [← hn] at I2
  have r2 : Vals (V.ref (n + 1) :: vs) (Value.ref (n + 1) :: us) := .cons rfl r
  have len : (Value.ref (n + 1) :: us).length = ps.length := by
    rw [← r2.length]
    exact F.len _ _ _ _ g
  have bb := hb _ (Value.ref (n + 1) :: us) I2.kIn (by rw [List.append_nil]; exact len)
  rw [List.append_nil] at bb
  refine wpAny_call (make_map (f := f) I.kIn M.makes M.init (beq_iff_eq.mp M.fn) ?_)
  rw [← hn]
  refine codeAny_mono (F.run _ X.stack _ _ ⟨Value.ref (n + 1) :: us, []⟩ (Value.ref (n + 1) :: us) _ _ E (hr.make C us []) (I2.env0.make C us []) bb r2 g) fun r s' hq => ?_
  match r, hq with
  | .error e, hq => exact hx pins _ _ e s' I2 hq
  | .ok (.ret u), hq =>
    obtain ⟨v, H', I3, rv, ev, q3⟩ := I2.after hq
    subst ev
    exact ⟨rv, ⟨V.ref (n + 1), H', I3, rfl, q3⟩⟩
theorem pe_mkS {CX : CXT} {E : L2.St → XK} (M : Mk X.K C f) (F : FnOk X.prog X.w X.K X.mg X.base CX k f fd ps sp) (hr : Room (k + 1) X.A) (hg : Gl X x) (hm : X.mg x = some (.ref C)) (hb : Binds X.K fd ps []) (hx : ∀ σ, PassesAt CX X σ (E σ)) (ha : PA X (e :: es) t)
    (hdb : (x == ("__debug__" : Str)) = false := by decide) (he : starEach (e :: es) X.env = (false, eval e X.env) :: starEach es X.env := by rfl) (hpl : (backTo pos (starEach es X.env)).any (·.1) = false := by rfl) : PE X (.Call (.Name x p) (e :: es) [] pos) (tMkS C sp E t) := by
  refine ⟨fun pins s σ H Q I h => wpAny_Call_Name_kw (ld_glob I hg hm ?_ hdb)⟩
  refine PySem.W.callWith_K (h₀ := X.base) I.ok.mod.kin M.kp (thn (ha.run pos pins s σ H _ I h) ?_) he hpl
  rintro us s1 ⟨vs, H1, I1, r, q⟩
  exact ⟨I1.kIn, run_mkS M F hr hb (hx σ) I1 r q⟩
theorem ma_make {K : PySem.W.Frag} (O : ObjK K T c C nm) (σ : L2.St) (H : Hp) (Q : VK) (h : MV K T W (Mi.call (Mi.make' c g) l) σ H Q) : tMkS C (spM K T g) (WE W) (MA K T W l) σ H Q := by
  obtain ⟨α, F, env, cs, rc, ev, h⟩ := h
  refine ⟨α, F, env, cs, rc, ev, h.bnd.mono fun α1 F1 cs1 H1 xs lt1 rc1 o1 vs r1 x dx hx hdx ne => ?_⟩
  have hx' : (upd H1 dx (.own x)) x = none := by
    rw [upd_ne (Ne.symm ne)]
    exact hx
  have nx := (Nx.alloc (α := α1) (F := F1) (o := .own x) hdx).trans (Nx.alloc (o := .ins C dx []) hx')
  have rc2 := (rc1.alloc (o := .own x) hdx).alloc (o := .ins C dx []) hx'
  obtain ⟨hf, ha⟩ := rc1.new_out hx
  obtain ⟨rc3, nx3⟩ := rc2.push nx hx hf ha (c := .obj c []) ⟨C, dx, nm, [], O.t, upd_same, rfl, rfl⟩
  refine ⟨α1 ++ [x], F1, cs1 ++ [.obj c []], .cell cs1.length :: xs, rc3, ⟨.ref x, vs, rfl, ⟨x, ?_, rfl⟩, r1.mono' nx3.toLt⟩, ?_⟩
  · rw [← rc1.len, List.getElem?_append_right (Nat.le_refl _), Nat.sub_self]
    rfl
  · refine ((Out.later nx3 o1).bnd.at).mono fun α4 F4 cs4 H4 d lt4 rc4 o4 v r4 => ?_
    cases d with
    | non =>
      have e : v = .non := r4
      refine ⟨e, o4.v (Nx.refl _ _ _) rc4 (.ref x) ⟨x, ?_, rfl⟩⟩
      obtain ⟨r, hr⟩ := lt4.al
      rw [← hr, List.getElem?_append_left (by rw [List.length_append, rc1.len]; simp), ← rc1.len, List.getElem?_append_right (Nat.le_refl _), Nat.sub_self]
      rfl
    | _ => exact o4.elim
theorem br_make (O : ObjK X.K T c C nm) (M : Mk X.K C f) (F : FnOk X.prog X.w X.K X.mg X.base (L2.CX X.prog X.w) k f fd ps (spM X.K T g)) (hr : Room (k + 1) X.A) (hg : Gl X x) (hm : X.mg x = some (.ref C)) (hb : Binds X.K fd ps []) (tk : Takes X W) (ha : PA X (e :: es) (MA X.K T W l))
    (hdb : (x == ("__debug__" : Str)) = false := by decide) (he : starEach (e :: es) X.env = (false, eval e X.env) :: starEach es X.env := by rfl) (hpl : (backTo pos (starEach es X.env)).any (·.1) = false := by rfl) : PE X (.Call (.Name x p) (e :: es) [] pos) (MV X.K T W (Mi.call (Mi.make' c g) l)) :=
  PE.imp (pe_mkS M F hr hg hm hb (fun σ => passAt tk σ) ha hdb he hpl) (ma_make O)
end
end Br
end
section
set_option Elab.async false
set_option linter.all false
set_option maxRecDepth 100000
set_option maxHeartbeats 4000000
namespace Br
open PySem PySem.Spec PyProof.Rows L2
section
variable {X : Cx} {T : Tab} {W : WX} {c : Nat} {C : Addr} {nm : List Str} {pos : Pos}
theorem bs_raise {e : Expr} (hc : X.calm = true) (tk : Takes X W) (ht : T c = some (C, nm)) (he : PMk X e fun _ H Q => Q (.ref C) none H) : PS X (.Raise (some e) none pos) (MS X.K T W (Mi.sRaise c)) :=
  PS.imp (ps_raise hc tk he) fun D σ H h => by
    obtain ⟨α, F, env, cs, rc, ev, h⟩ := h
    exact h α F H σ C nm (Nx.refl _ _ _) rc ev ht
inductive Cls1 (X : Cx) (T : Tab) (W : WX) : List ExceptHandler → List ((Nat → Option Bool) × Mi.S) → Prop
  | nil : Cls1 X T W [] []
  | cons {x : Str} {v : Value} {m : Nat → Option Bool} {s : Mi.S} {b₀ : Stmt} {suite : List Stmt} {np pos' : Pos} {hds : List ExceptHandler} {l : List ((Nat → Option Bool) × Mi.S)} (hc : Names X x v)
      (hm : ∀ c C nm b, T c = some (C, nm) → m c = some b → PySem.W.exmOne X.K (.ref C) v = some b)
      (hsu : ∀ (a : Addr) (pn : List (Addr × Obj)), PSs (X.suite a pn) (b₀ :: suite) (MS X.K T W s)) (r : Cls1 X T W hds l) :
      Cls1 X T W (.ExceptHandler (some (.Name x np)) none (b₀ :: suite) pos' :: hds) ((m, s) :: l)
theorem Cls1.hds {hds : List ExceptHandler} {l : List ((Nat → Option Bool) × Mi.S)} (h : Cls1 X T W hds l) : ∃ l', HdsOk X hds l' ∧ ∀ (D : Ends) (c : Nat) (C : Addr) (nm : List Str) (σ : L2.St) (H : Hp) (α : List Addr) (F : Hp) (env : Mi.Env) (cs : Mi.Cs), T c = some (C, nm) → RC X.K T α F cs H → Ev X.K T α F env σ →
    (∀ s, Mi.pick c l = some (some s) → OutS X.K T W α F H D (s env cs)) → (Mi.pick c l = some none → W (.ref C) none σ H) → Mi.pick c l ≠ none → wMany X.K W D l' (.ref C) none σ H := by
  induction h with
  | nil => exact ⟨[], .nil, fun D c C nm σ H α F env cs _ _ _ _ h2 _ => h2 rfl⟩
  | @cons x v m s b₀ suite np pos' hds l hc hm hsu r ih =>
    obtain ⟨l', h1, h2⟩ := ih
    refine ⟨(v, fun _ _ _ => MS X.K T W s) :: l', .cons hc (fun a oe _ _ pn _ _ => hsu a _) h1, fun D c C nm σ H α F env cs ht rc ev k1 k2 k3 => ?_⟩
    cases hb : m c with
    | none =>
      refine absurd ?_ k3
      show (match m c with | some true => _ | some false => _ | none => none) = none
      rw [hb]
    | some b =>
      refine ⟨b, hm c C nm b ht hb, fun e a _ => ?_, fun e => ?_⟩
      · subst e
        refine ⟨α, F, env, cs, rc, ev, k1 s ?_⟩
        show (match m c with | some true => _ | some false => _ | none => none) = _
        rw [hb]
      · subst e
        have hp : Mi.pick c ((m, s) :: l) = Mi.pick c l := by
          show (match m c with | some true => _ | some false => _ | none => none) = _
          rw [hb]
        rw [hp] at k1 k2 k3
        exact h2 D c C nm σ H α F env cs ht rc ev k1 k2 k3
theorem bs_try {body : List Stmt} {h₀ : ExceptHandler} {hds : List ExceptHandler} {sb : Mi.S} {l : List ((Nat → Option Bool) × Mi.S)} (hs : X.stack = X.env :: X.outer) (hf : X.env.frame = some X.env.locals) (tk : Takes X W)
    (hb : ∀ (W' : WX) (pn : List (Addr × Obj)) (xe : Value → Shared → Prop), Takes (X.tr pn xe) W' → PassesOwn (model X.prog X.w) X.A X.env xe → PSs (X.tr pn xe) body (MS X.K T W' sb))
    (hh : Cls1 X T W (h₀ :: hds) l) : PS X (.Try body (h₀ :: hds) [] [] pos) (MS X.K T W (Mi.sTry sb l)) := by
  obtain ⟨l', h1, h2⟩ := hh.hds
  refine PS.imp (ps_try_many hs hf tk hb h1) fun D σ H h => ?_
  obtain ⟨α, F, env, cs, rc, ev, h⟩ := h
  refine ⟨α, F, env, cs, rc, ev, ?_⟩
  unfold Mi.sTry at h
  cases e : sb env cs with
  | none => rw [e] at h; exact h.elim
  | some o =>
    rw [e] at h
    cases o with
    | nx env' cs' => exact h
    | rt d cs' => exact h
    | bk env' cs' => exact h
    | ct env' cs' => exact h
    | x c env' cs' =>
      intro α' F' H' σ' C nm nx rc' ev' ht
      dsimp only at h
      cases hp : Mi.pick c l with
      | none => rw [hp] at h; exact h.elim
      | some q =>
        rw [hp] at h
        refine h2 D c C nm σ' H' α' F' env' cs' ht rc' ev' (fun s e => ?_) (fun e => ?_) (by rw [hp]; exact nofun)
        · rw [hp] at e
          cases e
          exact OutS.later nx h
        · rw [hp] at e
          cases e
          exact h α' F' H' σ' C nm nx rc' ev' ht
end
end Br
end
section
set_option Elab.async false
set_option linter.all false
set_option maxRecDepth 100000
set_option maxHeartbeats 4000000
namespace Br
open PySem PySem.Spec PyProof.Rows L2
section
variable {K : PySem.W.Frag} {T : Tab} {α α' : List Addr} {F F' H H' : Hp} {cs cs' : Mi.Cs}
def minus (F : Hp) (d : Addr) : Hp := fun b => if b = d then none else F b
theorem minus_ne {d b : Addr} (h : b ≠ d) : minus F d b = F b := if_neg h
theorem minus_eq {d : Addr} : minus F d d = none := if_pos rfl
mutual
theorem Rp.minus {d : Addr} {o : Obj} {kvs : List (Key × V)} (hF : F d = some (.frz o (.dK kvs))) : ∀ (x : Mi.D) (v : V), Rp K T α F x v → Rp K T α (Br.minus F d) x v
  | .non, _, r => r
  | .bl _, _, r => r
  | .int _, _, r => r
  | .str _, _, r => r
  | .tup xs, _, r => by
    obtain ⟨a, vs, e, s, q⟩ := r
    refine ⟨a, vs, e, ?_, Rps.minus hF xs vs q⟩
    rcases s with (s | ⟨o', s⟩) | s
    · exact .inl (.inl (by rw [minus_ne fun z => by rw [z, hF] at s; cases s]; exact s))
    · exact .inl (.inr ⟨o', by rw [minus_ne fun z => by rw [z, hF] at s; cases s]; exact s⟩)
    · exact .inr s
  | .lst xs, _, r => by
    obtain ⟨a, vs, e, s, q⟩ := r
    exact ⟨a, vs, e, by rw [minus_ne fun z => by rw [z, hF] at s; cases s]; exact s, Rps.minus hF xs vs q⟩
  | .fro xs, _, r => by
    obtain ⟨a, vs, e, s, q⟩ := r
    refine ⟨a, vs, e, ?_, Rps.minus hF xs vs q⟩
    rcases s with (s | ⟨o', s⟩) | s
    · exact .inl (.inl (by rw [minus_ne fun z => by rw [z, hF] at s; cases s]; exact s))
    · exact .inl (.inr ⟨o', by rw [minus_ne fun z => by rw [z, hF] at s; cases s]; exact s⟩)
    · exact .inr s
  | .dct _ _, _, r => r.elim
  | .obj c fs, _, r => by
    obtain ⟨a, C, dx, nm, gs, e, t, s, k, q⟩ := r
    exact ⟨a, C, dx, nm, gs, e, t, by rw [minus_ne fun z => by rw [z, hF] at s; cases s]; exact s, k, Rps.minus hF fs _ q⟩
  | .cell k, _, r => r
theorem Rps.minus {d : Addr} {o : Obj} {kvs : List (Key × V)} (hF : F d = some (.frz o (.dK kvs))) : ∀ (xs : List Mi.D) (vs : List V), Rps K T α F xs vs → Rps K T α (Br.minus F d) xs vs
  | [], _, r => r
  | x :: xs, _, r => by
    obtain ⟨v, s, e, p, q⟩ := r
    exact ⟨v, s, e, Rp.minus hF x v p, Rps.minus hF xs s q⟩
end
theorem Ev.minus {env : Mi.Env} {σ : L2.St} {d : Addr} {o : Obj} {kvs : List (Key × V)} (hF : F d = some (.frz o (.dK kvs))) (e : Ev K T α F env σ) : Ev K T α (Br.minus F d) env σ := ⟨e.len, fun i x q => by
  obtain ⟨v, h1, h2⟩ := e.at_ i x q
  exact ⟨v, h1, Rp.minus hF _ _ h2⟩⟩
theorem RC.lock (rc : RC K T α F cs H) {k : Nat} {d : Addr} {ks ws : List Mi.D} (ea : α[k]? = some d) (hc : cs[k]? = some (.dct ks ws)) :
    ∃ kvs : List (Key × V), H d = some (.dK kvs) ∧ F d = none ∧ ∀ od, RC K T α (upd F d (.frz od (.dK kvs))) (cs.set k (.lck ks ws)) (upd H d (.frz od (.dK kvs))) ∧ Lt α F α (upd F d (.frz od (.dK kvs))) := by
  obtain ⟨kvs, hH, m, q⟩ := rc.ok k d _ ea hc
  have hm : d ∈ α := List.mem_of_getElem? ea
  have hF : F d = none := by
    rcases rc.out d hm with z | ⟨o, kv, z⟩
    · exact z
    · have := rc.same _ _ z
      rw [hH] at this
      cases this
  refine ⟨kvs, hH, hF, fun od => ?_⟩
  have lt : Lt α F α (upd F d (.frz od (.dK kvs))) := ⟨List.prefix_rfl, FLe.of_same fun b u e => by rw [upd_ne (ne_of_none e hF)]; exact e⟩
  refine ⟨⟨fun b u e => ?_, by simp [rc.len], rc.nd, fun a ha => ?_, fun j a c h1 h2 => ?_⟩, lt⟩
  · by_cases hb : b = d
    · subst hb
      rw [upd_same] at e ⊢
      exact e
    · rw [upd_ne hb] at e ⊢
      exact rc.same _ _ e
  · by_cases hb : a = d
    · subst hb
      exact .inr ⟨od, kvs, upd_same⟩
    · rw [upd_ne hb]
      exact rc.out a ha
  · by_cases hj : k = j
    · subst hj
      rw [ea] at h1
      cases h1
      rw [List.getElem?_set_self (List.getElem?_eq_some_iff.mp hc).1] at h2
      cases h2
      exact ⟨od, kvs, upd_same, upd_same, m, Rps.mono lt _ _ q⟩
    · rw [List.getElem?_set_ne hj] at h2
      refine ((rc.ok j a c h1 h2).mono lt).heap (upd_ne fun z => hj ?_)
      subst z
      exact (List.getElem?_inj (List.getElem?_eq_some_iff.mp ea).1 rc.nd).mp (ea.trans h1.symm)
theorem RC.free {α0 : List Addr} {F0 H0 : Hp} {k : Nat} {d : Addr} {kvs : List (Key × V)} {od : Obj} {cs2 : Mi.Cs} (hm : α0[k]? = some d) (hF : F0 d = none) (hH : H0 d = some (.dK kvs))
    (nx : Nx α0 (upd F0 d (.frz od (.dK kvs))) (upd H0 d (.frz od (.dK kvs))) α' F' H') (rc' : RC K T α' F' cs' H') (hu : Mi.unl k cs' = some cs2) :
    H' d = some (.frz od (.dK kvs)) ∧ F' d = some (.frz od (.dK kvs)) ∧ RC K T α' (minus F' d) cs2 (upd H' d (.dK kvs)) ∧ Nx α0 F0 H0 α' (minus F' d) (upd H' d (.dK kvs)) := by
  have f' : F' d = some (.frz od (.dK kvs)) := nx.fl.ex _ _ upd_same (fun _ z => nomatch z) (fun _ z => nomatch z)
  have h' : H' d = some (.frz od (.dK kvs)) := rc'.same _ _ f'
  have ea' : α'[k]? = some d := pre_get nx.al hm
  have hd0 : d ∈ α0 := List.mem_of_getElem? hm
  refine ⟨h', f', ⟨fun b u e => ?_, ?_, rc'.nd, fun a ha => ?_, fun j a c h1 h2 => ?_⟩, ⟨⟨nx.al, ?_⟩, fun b o e h1 h2 => ?_, fun b e => ?_⟩⟩
  · by_cases hb : b = d
    · subst hb
      rw [minus_eq] at e
      cases e
    · rw [minus_ne hb] at e
      rw [upd_ne hb]
      exact rc'.same _ _ e
  · unfold Mi.unl at hu
    split at hu
    · cases hu
      rw [List.length_set]
      exact rc'.len
    · cases hu
  · by_cases hb : a = d
    · subst hb
      exact .inl minus_eq
    · rw [minus_ne hb]
      exact rc'.out a ha
  · unfold Mi.unl at hu
    split at hu
    · rename_i ks ws hc
      cases hu
      by_cases hj : k = j
      · subst hj
        rw [ea'] at h1
        cases h1
        rw [List.getElem?_set_self (List.getElem?_eq_some_iff.mp hc).1] at h2
        cases h2
        obtain ⟨o, kv, f2, _, m, q⟩ := rc'.ok k d _ ea' hc
        rw [f'] at f2
        cases f2
        exact ⟨kvs, upd_same, m, Rps.minus f' _ _ q⟩
      · rw [List.getElem?_set_ne hj] at h2
        have hb : a ≠ d := fun z => hj (by subst z; exact (List.getElem?_inj (List.getElem?_eq_some_iff.mp ea').1 rc'.nd).mp (ea'.trans h1.symm))
        have ok := rc'.ok j a c h1 h2
        refine COk.heap (H := H') ?_ (upd_ne hb)
        cases c with
        | lst xs =>
          obtain ⟨vs, e, q⟩ := ok
          exact ⟨vs, e, Rps.minus f' _ _ q⟩
        | dct ks ws =>
          obtain ⟨kv, e, m, q⟩ := ok
          exact ⟨kv, e, m, Rps.minus f' _ _ q⟩
        | obj c fs =>
          obtain ⟨C, dx, nm, gs, t, e, m, q⟩ := ok
          exact ⟨C, dx, nm, gs, t, e, m, Rps.minus f' _ _ q⟩
        | lck ks ws =>
          obtain ⟨o, kv, f2, e, m, q⟩ := ok
          exact ⟨o, kv, by rw [minus_ne hb]; exact f2, e, m, Rps.minus f' _ _ q⟩
        | tdc ks ws =>
          obtain ⟨kv, e, m, q⟩ := ok
          exact ⟨kv, e, m, Rps.minus f' _ _ q⟩
    · cases hu
  · have lt0 : FLe F0 (upd F0 d (.frz od (.dK kvs))) := FLe.of_same fun b u e => by rw [upd_ne (ne_of_none e hF)]; exact e
    have fl := lt0.trans nx.fl
    refine ⟨fun a u r => ?_, fun a o e h1 h2 => ?_⟩
    · have hb : a ≠ d := fun z => by
        subst z
        rcases r with r | ⟨o, r⟩ <;> (rw [hF] at r; cases r)
      rcases fl.rd a u r with q | ⟨o, q⟩
      · exact .inl (by rw [minus_ne hb]; exact q)
      · exact .inr ⟨o, by rw [minus_ne hb]; exact q⟩
    · have hb : a ≠ d := ne_of_none e hF
      rw [minus_ne hb]
      exact fl.ex a o e h1 h2
  · have hb : b ≠ d := fun z => h2 (z ▸ hd0)
    obtain ⟨q1, q2, q3⟩ := nx.fr b o (by rw [upd_ne hb]; exact e) (by rw [upd_ne hb]; exact h1) h2
    exact ⟨by rw [upd_ne hb]; exact q1, by rw [minus_ne hb]; exact q2, q3⟩
  · by_cases hb : b = d
    · subst hb
      rw [upd_same] at e
      cases e
    · rw [upd_ne hb] at e
      have := nx.dom b e
      rw [upd_ne hb] at this
      exact this
end
theorem cellD_of' {cs : Mi.Cs} {x : Mi.D} {k : Nat} {ks ws : List Mi.D} (h : Mi.cellD cs x = some (k, ks, ws)) : x = .cell k ∧ cs[k]? = some (.dct ks ws) := by
  cases x <;> simp only [Mi.cellD, reduceCtorEq] at h
  rename_i j
  cases hc : cs[j]? with
  | none => rw [hc] at h; cases h
  | some c =>
    rw [hc] at h
    cases c <;> simp only [reduceCtorEq, Option.some.injEq, Prod.mk.injEq] at h
    obtain ⟨rfl, rfl, rfl⟩ := h
    exact ⟨rfl, hc⟩
section
variable {X : Cx} {T : Tab} {W : WX} {ea : Mi.E} {s : Mi.S} {l : Mi.EL}
theorem ms_lock {K : PySem.W.Frag} (D : Ends) (σ : L2.St) (H : Hp) (h : MS K T W (Mi.sLock ea s) D σ H) : tLock (MS K T W s) D σ H := by
  obtain ⟨α, F, env, cs, rc, ev, h⟩ := h
  unfold Mi.sLock at h
  split at h
  · rename_i x _ _
    split at h
    · rename_i k ks ws hcd
      obtain ⟨rfl, hc⟩ := cellD_of' hcd
      obtain ⟨d, ea', _⟩ := rc.get hc
      obtain ⟨kvs, hH, hF, lk⟩ := rc.lock ea' hc
      refine ⟨d, .dK kvs, hH, True.intro, fun od => ?_⟩
      obtain ⟨rc1, lt1⟩ := lk od
      refine ⟨α, _, env, _, rc1, ev.mono lt1, ?_⟩
      cases e : s env (cs.set k (.lck ks ws)) with
      | none => rw [e] at h; exact h.elim
      | some o =>
        rw [e] at h
        cases o with
        | nx env' cs' =>
          intro α' F' H' σ' nx rc' ev'
          cases hu : Mi.unl k cs' with
          | none => simp only [Mi.unlS, hu, Option.map_none] at h; exact h.elim
          | some cs2 =>
            simp only [Mi.unlS, hu, Option.map_some] at h
            obtain ⟨h1, f1, rc2, nx2⟩ := RC.free ea' hF hH nx rc' hu
            exact ⟨h1, h _ _ _ σ' nx2 rc2 (ev'.minus f1)⟩
        | bk env' cs' =>
          intro α' F' H' σ' nx rc' ev'
          cases hu : Mi.unl k cs' with
          | none => simp only [Mi.unlS, hu, Option.map_none] at h; exact h.elim
          | some cs2 =>
            simp only [Mi.unlS, hu, Option.map_some] at h
            obtain ⟨h1, f1, rc2, nx2⟩ := RC.free ea' hF hH nx rc' hu
            exact ⟨h1, h _ _ _ σ' nx2 rc2 (ev'.minus f1)⟩
        | ct env' cs' =>
          intro α' F' H' σ' nx rc' ev'
          cases hu : Mi.unl k cs' with
          | none => simp only [Mi.unlS, hu, Option.map_none] at h; exact h.elim
          | some cs2 =>
            simp only [Mi.unlS, hu, Option.map_some] at h
            obtain ⟨h1, f1, rc2, nx2⟩ := RC.free ea' hF hH nx rc' hu
            exact ⟨h1, h _ _ _ σ' nx2 rc2 (ev'.minus f1)⟩
        | rt v' cs' =>
          intro α' F' H' v nx rc' r'
          cases hu : Mi.unl k cs' with
          | none => simp only [Mi.unlS, hu, Option.map_none] at h; exact h.elim
          | some cs2 =>
            simp only [Mi.unlS, hu, Option.map_some] at h
            obtain ⟨h1, f1, rc2, nx2⟩ := RC.free ea' hF hH nx rc' hu
            exact ⟨h1, h _ _ _ v nx2 rc2 (Rp.minus f1 _ _ r')⟩
        | x c env' cs' => exact h.elim
    · exact h.elim
  · exact h.elim
theorem bs_lock {st : Stmt} (h : PS X st (MS X.K T W s)) : PS X st (MS X.K T W (Mi.sLock ea s)) := PS.imp (ps_lock h) ms_lock
theorem ml_lock {K : PySem.W.Frag} (σ : L2.St) (H : Hp) (Q : VK) (h : ML K T W (Mi.lLock ea l) σ H Q) : tLockE (ML K T W l) σ H Q := by
  obtain ⟨α, F, env, cs, rc, ev, h⟩ := h
  unfold Mi.lLock at h
  split at h
  · rename_i x _ _
    split at h
    · rename_i k ks ws hcd
      obtain ⟨rfl, hc⟩ := cellD_of' hcd
      obtain ⟨d, ea', _⟩ := rc.get hc
      obtain ⟨kvs, hH, hF, lk⟩ := rc.lock ea' hc
      refine ⟨d, .dK kvs, hH, True.intro, fun od => ?_⟩
      obtain ⟨rc1, lt1⟩ := lk od
      refine ⟨α, _, env, _, rc1, ev.mono lt1, ?_⟩
      cases e : l env (cs.set k (.lck ks ws)) with
      | none => rw [e] at h; exact h.elim
      | some o =>
        rw [e] at h
        cases o with
        | v ds cs' =>
          intro α' F' H' nx rc' p vs hp hp' fp ap r
          cases hu : Mi.unl k cs' with
          | none => simp only [Mi.unlR, hu, Option.map_none] at h; exact h.elim
          | some cs2 =>
            simp only [Mi.unlR, hu, Option.map_some] at h
            obtain ⟨h1, f1, rc2, nx2⟩ := RC.free ea' hF hH nx rc' hu
            have hpd : p ≠ d := fun z => by rw [z, upd_same] at hp; cases hp
            refine ⟨h1, h _ _ _ nx2 rc2 p vs (by rw [upd_ne hpd] at hp; exact hp) (by rw [upd_ne hpd]; exact hp') (by rw [minus_ne hpd]; exact fp) ap (Rps.minus f1 _ _ r)⟩
        | x c cs' => exact h.elim
    · exact h.elim
  · exact h.elim
theorem bl_lock {e : Expr} (h : PE X e (ML X.K T W l)) : PE X e (ML X.K T W (Mi.lLock ea l)) := PE.imp (pe_lock h) ml_lock
theorem bi_keys {tg e : Expr} (he : PE X e (MV X.K T W ea)) : PI X tg e (MI X.K T W (Mi.iLck ea)) := PI.imp (pi_keys he) fun σ H R h => by
  obtain ⟨α, F, env, cs, rc, ev, h⟩ := h
  refine ⟨α, F, env, cs, rc, ev, h.bnd.mono fun α1 F1 cs1 H1 x lt1 rc1 o1 v r1 => ?_⟩
  cases e : Mi.lckOf cs1 x with
  | none => rw [e] at o1; exact o1.elim
  | some p =>
    obtain ⟨ks, ws⟩ := p
    rw [e] at o1
    cases x <;> simp only [Mi.lckOf, reduceCtorEq] at e
    rename_i k
    obtain ⟨a, ea', rfl⟩ := r1
    cases hc : cs1[k]? with
    | none => rw [hc] at e; cases e
    | some c =>
      rw [hc] at e
      cases c <;> simp only [reduceCtorEq, Option.some.injEq, Prod.mk.injEq] at e
      obtain ⟨rfl, rfl⟩ := e
      obtain ⟨o, kvs, hF, hH, m, q⟩ := rc1.ok k a _ ea' hc
      refine ⟨a, o, rfl, .inl ⟨kvs, hH, o1.v (Nx.refl _ _ _) rc1 _ fun i α' F' cs' H' nx rc' _ => ?_⟩⟩
      have f' : F' a = some (.frz o (.dK kvs)) := nx.fl.ex _ _ hF (fun _ z => nomatch z) (fun _ z => nomatch z)
      have h' := rc'.same _ _ f'
      refine ⟨fun d hd => ?_, fun hn => ?_⟩
      · rw [← m, List.getElem?_map] at hd
        obtain ⟨kv, hkv, rfl⟩ := Option.map_eq_some_iff.mp hd
        refine ⟨⟨h', (List.getElem?_eq_some_iff.mp hkv).1⟩, fun x H'' hy => ?_⟩
        obtain ⟨rfl, k', v', hk', rfl⟩ := hy
        rw [hkv] at hk'
        cases hk'
        refine ⟨F', Nx.refl _ _ _, rc', ?_⟩
        cases k' <;> rfl
      · rw [← m, List.getElem?_map] at hn
        refine ⟨h', ?_⟩
        cases hh : kvs[i]? with
        | none => exact List.getElem?_eq_none_iff.mp hh
        | some kv => rw [hh] at hn; cases hn
end
end Br
end
section
set_option Elab.async false
set_option linter.all false
set_option maxRecDepth 100000
set_option maxHeartbeats 4000000
namespace Br
open PySem PySem.Spec PyProof.Rows L2
theorem meets_enumT {v : Value} {o : Obj} {H : Heap → Prop} (B : Begins v o H) :
    Meets (Builtin.«enumerate.__new__» ⟨[.type "enumerate", v], []⟩) (fun _ R s => H s.heap ∧
      R (.ok (.ret (.ref (s.heap.push o).objs.size))) { s with heap := (s.heap.push o).push { cls := .type "enumerate", data := .fields #[.none, .bool false, .ref s.heap.objs.size, rawInt 0, .none, .none] } }) :=
  .of_wp fun prog w A R s h => by
    obtain ⟨hp, g, d, tk, os⟩ := s
    obtain ⟨h1, h⟩ := h
    have hsub := sub_enumerate
    have q1 : ∀ {A' : Around} {E : Value → Shared → Prop} {Q : Value → Shared → Prop}, Q (.ref hp.objs.size) ⟨hp.push o, g, d, tk, os⟩ → wpAny (model prog w) A' (pyIter v) Q E ⟨hp, g, d, tk, os⟩ :=
      fun q => B.iter prog w _ _ ⟨hp, g, d, tk, os⟩ _ h1 q
    wp_walk using q1
    refine wpAny_stack_any fun st => wpAny_pure ?_
    split
    · rename_i c _ _ _ _ _
      cases (c == Value.type "enumerate") <;> (wp_walk using q1; exact ⟨_, rfl, h⟩)
    · wp_walk using q1
      exact ⟨_, rfl, h⟩
section
variable {prog : Program} {w : World} {A : Around} {E : Value → Shared → Prop} {s : Shared}
theorem call_enumT {t : Addr} {items : Array Value} {Q : Value → Shared → Prop} (hT : s.heap.IsTuple t items)
    (h : ∀ h', IsEnum h' (s.heap.objs.size + 1) s.heap.objs.size 0 .none → h'.IsTupleIter s.heap.objs.size t 0 → (∀ b o, s.heap.get? b = some o → h'.get? b = some o) → Q (.ref (s.heap.objs.size + 1)) { s with heap := h' }) :
    wpAny (model prog w) A (call (.type "enumerate") [.ref t]) Q E s := by
  have B := begins_tuple t items
  refine callType_new F.called_enumerate (by decide) (F.typeCall_enumerate_1 _) (F.newCall_enumerate_1 _) (fun obj => F.args_object_init_2 obj _) F.entry_enumerate_new (meets_enumT B) ⟨hT, ?_⟩
  generalize ho : ({ cls := .type "tuple_iterator", data := .fields #[.ref t, .int 0 0] } : Obj) = o
  have hz : (s.heap.push o).objs.size = s.heap.objs.size + 1 := Heap.size_push ..
  show _ ∧ _
  rw [hz]
  have he : IsEnum ((s.heap.push o).push { cls := .type "enumerate", data := .fields #[.none, .bool false, .ref s.heap.objs.size, rawInt 0, .none, .none] }) (s.heap.objs.size + 1) s.heap.objs.size 0 .none := by
    have := Heap.get?_push_size (s.heap.push o) (o := { cls := .type "enumerate", data := .fields #[.none, .bool false, .ref s.heap.objs.size, rawInt 0, .none, .none] }) rfl
    rw [hz] at this
    exact this
  refine ⟨⟨_, he, rfl⟩, h _ he ⟨o, Heap.get?_push_of_some _ (Heap.get?_push_size _ (by rw [← ho]; rfl)), ?_, ?_⟩ fun b o' x => Heap.get?_push_of_some _ (Heap.get?_push_of_some _ x)⟩
  · rw [← ho]
  · rw [← ho]
    rfl
end
def IteT (K : PySem.W.Frag) (a : Addr) (n : Nat) : L2.It :=
  ⟨fun i H => ∃ (xs : List V) (x : V), SqT K H a xs ∧ xs[i]? = some x ∧ xs.length = n, fun i H v H' => ∃ T x, v = .ref T ∧ H T = none ∧ H' = upd H T (.tup [.int (i : Nat), x]) ∧ ∀ xs, SqT K H a xs → xs[i]? = some x, fun i H => ∃ xs : List V, SqT K H a xs ∧ xs.length ≤ i ∧ xs.length = n⟩
theorem turn_enumT {P : Program} {w : World} {K : PySem.W.Frag} {elts : List Expr} {kk : Nat} {tpos : Pos} (a e it : Addr) (n : Nat) :
    Turn P w K (.Tuple elts kk tpos) (IteT K a n) [e, it] e (fun i h => i ≤ n ∧ (∃ old, IsEnum h e it ((i : Nat) : Int) old) ∧ h.IsTupleIter it a i ∧ e ≠ it ∧ e ≠ a ∧ a ≠ it) where
  mem := by simp
  obj := fun i h st b hb => by
    obtain ⟨_, ⟨old, he⟩, ⟨o, ho, hc, hd⟩, _⟩ := st
    rcases (show b = e ∨ b = it by simpa using hb) with z | z
    · subst z
      exact ⟨_, he, fun v q => nomatch q⟩
    · subst z
      exact ⟨o, ho, fun v q => by rw [hd] at q; cases q⟩
  keep := fun i h h' st k => by
    obtain ⟨hn, ⟨old, he⟩, hi, hne⟩ := st
    exact ⟨hn, ⟨old, k e (by simp) _ he⟩, hi.at fun o q => k it (by simp) o q, hne⟩
  item := by
    intro X hP hw hK hc i pins s σ H E I hf st hg
    subst hP hw hK
    obtain ⟨hin, ⟨old, he⟩, hit, hne, hea, hai⟩ := st
    obtain ⟨xs, x, hq, hx, hxn⟩ := hg
    obtain ⟨its, rv, p, hz⟩ := I.tuple hq
    obtain ⟨u, hu, ru⟩ := rv.get hx
    have hp : s.heap.IsTuple a its.toArray := p
    have hel : e < s.heap.objs.size := Heap.lt_size he
    have hil : it < s.heap.objs.size := by
      obtain ⟨_, q, _⟩ := hit
      exact Heap.lt_size q
    have hlt : i < its.toArray.size := by
      have := (List.getElem?_eq_some_iff.mp hu).1
      simpa using this
    refine wpAny_pyNext_enum_itemD (Draws.tuple (A := X.A.in1) (I.ok.hd hc) it a hai its.toArray) he ⟨hit, hp⟩ hlt hne (by simp [hne, hea]) fun y h' tk hy ho hst hT hsz hk => ?_
    have hyu : y = u := by
      have : its[i]? = some y := by simpa using hy
      rw [hu] at this
      exact (Option.some.inj this).symm
    subst hyu
    refine ⟨_, rfl, wpAny_letOwnedTupleGo_enum (s := { s with heap := h', toks := tk + 1 }) ho fun h'' he' sb => ?_⟩
    have hT2 : h''.get? s.heap.objs.size = some { cls := .type "tuple", data := .seq #[.int i tk, y] } := (sb.2 _ (Nat.ne_of_gt hel)).trans hT
    have new : ObjOk X.prog X.w (upd H s.heap.objs.size (.tup [.int (i : Nat), x])) h'' s.heap.objs.size (.tup [.int (i : Nat), x]) :=
      ⟨by show 2 ≤ sizeLine; decide, [.int i tk, y], .cons ⟨_, rfl⟩ (.cons ru .nil), ⟨_, hT2, rfl, _, rfl⟩⟩
    have I1 : Inv X pins σ (upd H s.heap.objs.size (.tup [.int (i : Nat), x])) { s with heap := h'', toks := tk + 1 } :=
      I.turnedNew (ch := [e, it]) (fun b ob hb q => (sb.2 b (fun z => hb (by simp [z]))).trans (hk b ob (fun z => hb (by simp [z])) (fun z => hb (by simp [z])) q)) hf (Nat.le_refl _) new
    refine ⟨.ref s.heap.objs.size, _, I1, rfl, ⟨_, x, rfl, I.hok.fresh (Nat.le_refl _), rfl, fun ys hy => by rw [I.tuple_inj hy hq]; exact hx⟩, ⟨by have := (List.getElem?_eq_some_iff.mp hx).1; omega, ⟨y, ?_⟩, hst.1.at fun o q => (sb.2 it (Ne.symm hne)).trans q, hne, hea, hai⟩, fun b hb => ?_⟩
    · have e1 : ((i + 1 : Nat) : Int) = (i : Int) + 1 := by omega
      rw [e1]
      exact he'
    · have hb' : b < s.heap.objs.size := by
        rcases (show b = e ∨ b = it by simpa using hb) with z | z
        · rw [z]; exact hel
        · rw [z]; exact hil
      rw [upd_ne (Nat.ne_of_lt hb')]
      exact (hf b hb).1
  done := by
    intro X hP hw hK hc i pins s σ H E I hf st hg
    subst hP hw hK
    obtain ⟨hin, ⟨old, he⟩, hit, hne, hea, hai⟩ := st
    obtain ⟨xs, hq, hx, hxn⟩ := hg
    obtain ⟨its, rv, p, hz⟩ := I.tuple hq
    obtain ⟨f0, f1, f2, f3, f4, f5⟩ := hf it (by simp)
    have hl := rv.length
    have hp : s.heap.IsTuple a its.toArray := p
    have hi : i = its.toArray.size := by
      simp
      omega
    subst hi
    exact wpAny_pyNext_enum_endD (Draws.tuple (A := X.A.in1) (I.ok.hd hc) it a hai its.toArray) he ⟨hit, hp⟩ fun h' eb => ⟨rfl, I.turned (t' := s.toks) (fun b o hb q => eb b o hb q) f0 f1 f3 f4 f5⟩
  self := fun A i s Q E st h => by
    obtain ⟨_, ⟨_, he⟩, _⟩ := st
    exact wpAny_pyIter_enum he h
def iEnT (K : PySem.W.Frag) (ta : TA) : TI := fun σ H R => ta σ H fun vs H1 => ∃ a xs, vs = [.ref a] ∧ SqT K H1 a xs ∧ R (IteT K a xs.length) H1
theorem pi_enumT {X : Cx} {e : Expr} {ta : TA} {p pos tpos : Pos} {elts : List Expr} {kk : Nat} (hg : Gl X "enumerate") (hm : X.mg "enumerate" = none) (ha : PA X [e] ta) (hs : starEach [e] X.env = [(false, eval e X.env)] := by rfl) :
    PI X (.Tuple elts kk tpos) (.Call (.Name "enumerate" p) [e] [] pos) (iEnT X.K ta) := by
  refine ⟨fun pins s σ H R I h => Call_ (ld_blt I hg hm boot_enumerate (PyProof.Rows.callWith_type1 (thn (ha.run pos pins s σ H _ I h) ?_) hs rfl))⟩
  rintro us s1 ⟨vs, H1, I1, r1, a, xs, rfl, hq, q⟩
  obtain ⟨u, rfl, ru⟩ := vals1 r1
  cases ru
  obtain ⟨its, rv, p', hz⟩ := I1.tuple hq
  have hp : s1.heap.IsTuple a its.toArray := p'
  have hal : a < s1.heap.objs.size := by
    obtain ⟨_, q, _⟩ := hp
    exact Heap.lt_size q
  refine call_enumT hp fun h' he hit hk => wpAny_pyIter_enum he ?_
  refine ⟨s1.heap.objs.size + 1, [s1.heap.objs.size + 1, s1.heap.objs.size], _, _, H1, rfl, I1.kept (t' := s1.toks) hk, turn_enumT a (s1.heap.objs.size + 1) s1.heap.objs.size xs.length, ⟨Nat.zero_le _, ⟨.none, he⟩, hit, Nat.succ_ne_self _, Nat.ne_of_gt (Nat.lt_succ_of_lt hal), Nat.ne_of_lt hal⟩, fun b hb => ?_, q⟩
  have hle : s1.heap.objs.size ≤ b := by
    rcases (show b = s1.heap.objs.size + 1 ∨ b = s1.heap.objs.size by simpa using hb) with z | z
    · rw [z]
      exact Nat.le_succ _
    · rw [z]
      exact Nat.le_refl _
  exact I1.fpOk hle (I1.hok.fresh hle)
end Br
end
section
set_option Elab.async false
set_option linter.all false
set_option maxRecDepth 100000
set_option maxHeartbeats 4000000
namespace Br
open PySem PySem.Spec PyProof.Rows L2
section
variable {K : PySem.W.Frag} {T : Tab} {α α' : List Addr} {F F' H H' : Hp} {cs cs' : Mi.Cs}
theorem pairs_get : ∀ (k : Nat) (xs : List Mi.D) (i : Nat), (Mi.pairs k xs)[i]? = (xs[i]?).map fun d => .tup [.int ((k + i : Nat) : Int), d]
  | _, [], _ => by simp [Mi.pairs]
  | k, x :: xs, 0 => by simp [Mi.pairs]
  | k, x :: xs, i + 1 => by
    show (Mi.pairs (k + 1) xs)[i]? = _
    rw [pairs_get (k + 1) xs i]
    simp only [List.getElem?_cons_succ, Nat.add_assoc, Nat.add_comm 1 i]
theorem tup2 {p : Addr} {d e : Mi.D} {v w : V} (h : F p = some (.tup [v, w])) (r : Rp K T α F d v) (q : Rp K T α F e w) : Rp K T α F (.tup [d, e]) (.ref p) :=
  ⟨p, [v, w], rfl, .inl (.inl h), v, [w], rfl, r, w, [], rfl, q, rfl⟩
theorem j_enum {x : Mi.D} {a : Addr} {xs : List Mi.D} (rx : Rp K T α F x (.ref a)) (h : Mi.lstOf cs x = some xs) : JOk K T (Ite K a) α F H (Mi.pairs 0 xs) (Mi.stays cs x) := by
  intro i α' F' cs' H' nx rc hc
  have h' := lstOf_stays h hc
  obtain ⟨b, vs, e, s, r⟩ := lstOf_of rc (Rp.mono nx.toLt _ _ rx) h'
  cases e
  refine ⟨fun d hd => ?_, fun hn => ?_⟩
  · rw [pairs_get] at hd
    obtain ⟨y, hy, rfl⟩ := Option.map_eq_some_iff.mp hd
    obtain ⟨v, hv, rv⟩ := r.get hy
    refine ⟨⟨vs, v, s, hv⟩, fun z H'' hz => ?_⟩
    obtain ⟨p, v', rfl, hp, rfl, hv'⟩ := hz
    have e2 : v' = v := Option.some.inj ((hv' vs s).symm.trans hv)
    subst e2
    obtain ⟨rc2, nx2⟩ := rc.ground (o := .tup [.int (i : Nat), v']) hp
    refine ⟨_, nx2, rc2, tup2 upd_same ?_ (Rp.mono nx2.toLt _ _ rv)⟩
    show _ = V.int _
    rw [Nat.zero_add]
  · rw [pairs_get] at hn
    refine ⟨vs, s, ?_⟩
    rw [r.length]
    cases hh : xs[i]? with
    | none => exact List.getElem?_eq_none_iff.mp hh
    | some y => rw [hh] at hn; cases hn
theorem j_enumT {a : Addr} {xs : List Mi.D} {vs : List V} (h : SqT K F a vs) (r : Rps K T α F xs vs) : JOk K T (IteT K a vs.length) α F H (Mi.pairs 0 xs) (fun _ => true) := by
  intro i α' F' cs' H' nx rc hc
  have s : SqT K H' a vs := same_sqT rc.same (nx.fl.sqT h)
  have r := r.mono' nx.toLt
  refine ⟨fun d hd => ?_, fun hn => ?_⟩
  · rw [pairs_get] at hd
    obtain ⟨y, hy, rfl⟩ := Option.map_eq_some_iff.mp hd
    obtain ⟨v, hv, rv⟩ := r.get hy
    refine ⟨⟨vs, v, s, hv, rfl⟩, fun z H'' hz => ?_⟩
    obtain ⟨p, v', rfl, hp, rfl, hv'⟩ := hz
    have e2 : v' = v := Option.some.inj ((hv' vs s).symm.trans hv)
    subst e2
    obtain ⟨rc2, nx2⟩ := rc.ground (o := .tup [.int (i : Nat), v']) hp
    refine ⟨_, nx2, rc2, tup2 upd_same ?_ (Rp.mono nx2.toLt _ _ rv)⟩
    show _ = V.int _
    rw [Nat.zero_add]
  · rw [pairs_get] at hn
    refine ⟨vs, s, ?_, rfl⟩
    rw [r.length]
    cases hh : xs[i]? with
    | none => exact List.getElem?_eq_none_iff.mp hh
    | some y => rw [hh] at hn; cases hn
theorem zip_get (xs ys : List Mi.D) (i : Nat) : ((xs.zip ys).map fun p => Mi.D.tup [p.1, p.2])[i]? = (xs[i]?).bind fun x => (ys[i]?).map fun y => .tup [x, y] := by
  rw [List.getElem?_map]
  induction xs generalizing ys i with
  | nil => simp
  | cons x xs ih =>
    cases ys with
    | nil => simp
    | cons y ys =>
      cases i with
      | zero => rfl
      | succ i => exact ih ys i
theorem seqOf_stays {x : Mi.D} {xs : List Mi.D} (h : Mi.lstOf cs x = some xs) (hc : Mi.stays cs x cs' = true) : Mi.lstOf cs' x = some xs := lstOf_stays h hc
theorem j_zip {x y : Mi.D} {a b : Addr} {xs ys : List Mi.D} (rx : Rp K T α F x (.ref a)) (ry : Rp K T α F y (.ref b)) (h : Mi.lstOf cs x = some xs) (h2 : Mi.lstOf cs y = some ys) :
    JOk K T (Itz K a b) α F H ((xs.zip ys).map fun p => .tup [p.1, p.2]) (fun cs' => Mi.stays cs x cs' && Mi.stays cs y cs') := by
  intro i α' F' cs' H' nx rc hc
  rw [Bool.and_eq_true] at hc
  obtain ⟨_, vs, e, s, r⟩ := lstOf_of rc (Rp.mono nx.toLt _ _ rx) (lstOf_stays h hc.1)
  cases e
  obtain ⟨_, ws, e, s2, r2⟩ := lstOf_of rc (Rp.mono nx.toLt _ _ ry) (lstOf_stays h2 hc.2)
  cases e
  refine ⟨fun d hd => ?_, fun hn => ?_⟩
  · rw [zip_get] at hd
    obtain ⟨u, hu, hd⟩ := Option.bind_eq_some_iff.mp hd
    obtain ⟨w, hw, rfl⟩ := Option.map_eq_some_iff.mp hd
    obtain ⟨v, hv, rv⟩ := r.get hu
    obtain ⟨v2, hv2, rv2⟩ := r2.get hw
    refine ⟨⟨vs, ws, v, v2, s, s2, hv, hv2⟩, fun z H'' hz => ?_⟩
    obtain ⟨p, v', w', rfl, hp, rfl, hv', hw'⟩ := hz
    have e1 : v' = v := Option.some.inj ((hv' vs s).symm.trans hv)
    have e2 : w' = v2 := Option.some.inj ((hw' ws s2).symm.trans hv2)
    subst e1
    subst e2
    obtain ⟨rc2, nx2⟩ := rc.ground (o := .tup [v', w']) hp
    exact ⟨_, nx2, rc2, tup2 upd_same (Rp.mono nx2.toLt _ _ rv) (Rp.mono nx2.toLt _ _ rv2)⟩
  · rw [zip_get] at hn
    refine ⟨vs, ws, s, s2, ?_⟩
    rw [r.length, r2.length]
    cases hh : xs[i]? with
    | none => exact .inl (List.getElem?_eq_none_iff.mp hh)
    | some u =>
      rw [hh] at hn
      cases hh2 : ys[i]? with
      | none => exact .inr (List.getElem?_eq_none_iff.mp hh2)
      | some w => rw [hh2] at hn; cases hn
theorem rps_keys : ∀ kvs : List (Key × V), Rps K T α F (kvs.map fun p => keyD p.1) (kvs.map fun kv => kV kv.1)
  | [] => rfl
  | (.inl _, _) :: r => ⟨_, _, rfl, rfl, rps_keys r⟩
  | (.inr _, _) :: r => ⟨_, _, rfl, rfl, rps_keys r⟩
theorem j_rev {x : Mi.D} {a : Addr} {xs : List Mi.D} (rx : Rp K T α F x (.ref a)) (h : Mi.lstOf cs x = some xs) {n : Nat} (hn : n = xs.length) : JOk K T (Itv K a n) α F H xs.reverse (Mi.stays cs x) := by
  intro i α' F' cs' H' nx rc hc
  subst hn
  obtain ⟨_, vs, e, s, r⟩ := lstOf_of rc (Rp.mono nx.toLt _ _ rx) (lstOf_stays h hc)
  cases e
  refine ⟨fun d hd => ?_, fun hn => ?_⟩
  · have hi : i < xs.length := by
      have := (List.getElem?_eq_some_iff.mp hd).1
      rwa [List.length_reverse] at this
    rw [List.getElem?_reverse hi] at hd
    obtain ⟨v, hv, rv⟩ := r.get hd
    refine ⟨⟨hi, vs, v, s, hv⟩, fun z H'' hz => ?_⟩
    obtain ⟨rfl, hz⟩ := hz
    have e2 : z = v := Option.some.inj ((hz vs s).symm.trans hv)
    subst e2
    exact ⟨F', Nx.refl _ _ _, rc, rv⟩
  · have := List.getElem?_eq_none_iff.mp hn
    rwa [List.length_reverse] at this
end
section
variable {X : Cx} {T : Tab} {W : WX} {a b c o tg : Expr} {ea eb ec : Mi.E} {l : Mi.EL} {elts : List Expr} {kk : Nat} {pos apos cpos tpos p : Pos}
theorem bi_enum (hg : Gl X "enumerate") (hm : X.mg "enumerate" = none) (ha : PE X a (MV X.K T W ea)) (na : starEach [a] X.env = (false, eval a X.env) :: starEach [] X.env := by rfl) (hs : starEach [a] X.env = [(false, eval a X.env)] := by rfl) :
    PI X (.Tuple elts kk tpos) (.Call (.Name "enumerate" p) [a] [] pos) (MI X.K T W (Mi.iEnum ea)) := PI.imp (pi_enum hg hm (pa_cons ha pa_nil na) hs) fun σ H R h => by
  obtain ⟨α, F, env, cs, rc, ev, h⟩ := h
  refine ⟨α, F, env, cs, rc, ev, h.bnd.mono fun α1 F1 cs1 H1 x lt1 rc1 o1 v r1 => ?_⟩
  cases e : Mi.lstOf cs1 x with
  | none => rw [e] at o1; exact o1.elim
  | some xs =>
    rw [e] at o1
    obtain ⟨q, vs, rfl, s, r⟩ := lstOf_of rc1 r1 e
    exact ⟨q, vs, rfl, s, o1.v (Nx.refl _ _ _) rc1 _ (j_enum r1 e)⟩
theorem bi_enumT (hg : Gl X "enumerate") (hm : X.mg "enumerate" = none) (ha : PE X a (MV X.K T W ea)) (na : starEach [a] X.env = (false, eval a X.env) :: starEach [] X.env := by rfl) (hs : starEach [a] X.env = [(false, eval a X.env)] := by rfl) :
    PI X (.Tuple elts kk tpos) (.Call (.Name "enumerate" p) [a] [] pos) (MI X.K T W (Mi.iEnumT ea)) := PI.imp (pi_enumT hg hm (pa_cons ha pa_nil na) hs) fun σ H R h => by
  obtain ⟨α, F, env, cs, rc, ev, h⟩ := h
  refine ⟨α, F, env, cs, rc, ev, h.bnd.mono fun α1 F1 cs1 H1 x lt1 rc1 o1 v r1 => ?_⟩
  cases x <;> try exact o1.elim
  rename_i xs
  obtain ⟨q, vs, rfl, s, r⟩ := r1
  exact ⟨q, vs, rfl, same_sqT rc1.same s, o1.v (Nx.refl _ _ _) rc1 _ (j_enumT s r)⟩
theorem bi_rev (hg : Gl X "reversed") (hm : X.mg "reversed" = none) (ha : PE X a (MV X.K T W ea)) (na : starEach [a] X.env = (false, eval a X.env) :: starEach [] X.env := by rfl) (hs : starEach [a] X.env = [(false, eval a X.env)] := by rfl) :
    PI X tg (.Call (.Name "reversed" p) [a] [] pos) (MI X.K T W (Mi.iRev ea)) := PI.imp (pi_reversed hg hm (pa_cons ha pa_nil na) hs) fun σ H R h => by
  obtain ⟨α, F, env, cs, rc, ev, h⟩ := h
  refine ⟨α, F, env, cs, rc, ev, h.bnd.mono fun α1 F1 cs1 H1 x lt1 rc1 o1 v r1 => ?_⟩
  cases e : Mi.lstOf cs1 x with
  | none => rw [e] at o1; exact o1.elim
  | some xs =>
    rw [e] at o1
    obtain ⟨q, vs, rfl, s, r⟩ := lstOf_of rc1 r1 e
    exact ⟨q, vs, rfl, s, o1.v (Nx.refl _ _ _) rc1 _ (j_rev r1 e r.length)⟩
theorem bi_zip (hg : Gl X "zip") (hm : X.mg "zip" = none) (ha : PE X a (MV X.K T W ea)) (hb : PE X b (MV X.K T W eb)) (na : starEach [a, b] X.env = (false, eval a X.env) :: starEach [b] X.env := by rfl) (nb : starEach [b] X.env = (false, eval b X.env) :: starEach [] X.env := by rfl) (hpl : (backTo pos (starEach [b] X.env)).any (·.1) = false := by rfl) :
    PI X (.Tuple elts kk tpos) (.Call (.Name "zip" p) [a, b] [] pos) (MI X.K T W (Mi.iZipL ea eb)) := PI.imp (pi_zip hg hm (pa_cons ha (pa_cons hb pa_nil nb) na) na hpl) fun σ H R h => by
  obtain ⟨α, F, env, cs, rc, ev, h⟩ := h
  refine ⟨α, F, env, cs, rc, ev, h.bnd.mono fun α1 F1 cs1 H1 x lt1 rc1 o1 v r1 => ?_⟩
  refine ⟨α1, F1, env, cs1, rc1, ev.mono lt1.toLt, o1.bnd.mono fun α2 F2 cs2 H2 y lt2 rc2 o2 w r2 => ?_⟩
  have r1' := Rp.mono lt2.toLt _ _ r1
  cases e : Mi.lstOf cs2 x with
  | none => rw [e] at o2; exact o2.elim
  | some xs =>
    cases e2 : Mi.lstOf cs2 y with
    | none => rw [e, e2] at o2; exact o2.elim
    | some ys =>
      rw [e, e2] at o2
      obtain ⟨q, vs, rfl, s, r⟩ := lstOf_of rc2 r1' e
      obtain ⟨q2, ws, rfl, s2, r3⟩ := lstOf_of rc2 r2 e2
      exact ⟨q, q2, vs, ws, rfl, s, s2, o2.v (Nx.refl _ _ _) rc2 _ (j_zip r1' r2 e e2)⟩
theorem o_lenD {K : PySem.W.Frag} : Op1 K T (fun v H Q => ∃ a kvs, [v] = [V.ref a] ∧ H a = some (.dK kvs) ∧ Q (.int kvs.length) H) Mi.oLenU := by
  intro α F cs H x z v rc rx e Q q
  unfold Mi.oLenU at e
  cases hc : Mi.cellD cs x with
  | none => rw [hc] at e; cases e
  | some p =>
    obtain ⟨k, ks, ws⟩ := p
    rw [hc] at e
    cases e
    obtain ⟨rfl, hk⟩ := cellD_of' hc
    obtain ⟨a, ea, rfl⟩ := rx
    obtain ⟨kvs, hH, m, r⟩ := rc.ok k a _ ea hk
    refine ⟨a, kvs, rfl, hH, q _ _ _ _ (Nx.refl _ _ _) rc ?_⟩
    show _ = V.int _
    rw [← m, List.length_map]
theorem bl_keys {p : Pos} (hc : X.calm = true) (hg : Gl X "list") (hm : X.mg "list" = none) (ha : PE X a (MV X.K T W ea)) (na : starEach [a] X.env = (false, eval a X.env) :: starEach [] X.env := by rfl) : PE X (.Call (.Name "list" p) [a] [] pos) (ML X.K T W (Mi.lKeys ea)) := by
  refine PE.imp (pe_callTy (call_listD hc) hg hm boot_list (pa_cons ha pa_nil na) (he := na)) fun σ H Q h => ?_
  obtain ⟨α, F, env, cs, rc, ev, h⟩ := h
  refine ⟨α, F, env, cs, rc, ev, h.bnd.mono fun α1 F1 cs1 H1 x lt1 rc1 o1 v r1 => ?_⟩
  cases e : Mi.dctOf cs1 x with
  | none => rw [e] at o1; exact o1.elim
  | some pr =>
    obtain ⟨ks, ws⟩ := pr
    rw [e] at o1
    obtain ⟨a, kvs, rfl, hd, m, r⟩ := dctOf_of rc1 r1 e
    refine ⟨a, kvs, rfl, hd, fun l hl => ?_⟩
    obtain ⟨hf, ha⟩ := rc1.new_out hl
    refine o1.v (Nx.alloc hl) (rc1.alloc hl) l _ (lt1.dom l hl) upd_same hf ha ?_
    rw [← m]
    exact rps_keys kvs
end
end Br
end
section
set_option Elab.async false
set_option linter.all false
set_option maxRecDepth 100000
set_option maxHeartbeats 4000000
namespace Br
open PySem PySem.Spec PyProof.Rows L2
section
variable {X : Cx} {T : Tab} {W : WX} {a b c o : Expr} {ea eb ec : Mi.E} {pos apos cpos p2 : Pos}
theorem mv_bm0 {K : PySem.W.Frag} {r : V → List V → Hp → VK → Prop} {Ty : String} {ok : Mi.Cs → Mi.D → Bool} {op : Mi.Cs → Mi.D → List Mi.D → Option (Mi.D × Mi.Cs)} (hk : OkM K T Ty ok) (hs : OpM K T r op) (σ : L2.St) (H : Hp) (Q : VK) (h : MV K T W (Mi.m1 ok op ea Mi.aNil) σ H Q) :
    tBM0 K Ty r (MV K T W ea) σ H Q := by
  obtain ⟨α, F, env, cs, rc, ev, h⟩ := h
  refine ⟨α, F, env, cs, rc, ev, h.bnd.mono fun α1 F1 cs1 H1 x lt1 rc1 o1 v r1 => ?_⟩
  by_cases hok : ok cs1 x = true
  · rw [if_pos hok] at o1
    refine ⟨hk _ _ _ _ _ _ rc1 r1 hok, ?_⟩
    have o2 : Out K T W σ α1 F1 H1 (match op cs1 x [] with | some (d, cs') => some (Mi.R.v d cs') | none => none) fun α' F' _ H' d => ∀ v, Rp K T α' F' d v → Q v H' := o1
    cases e : op cs1 x [] with
    | none => rw [e] at o2; exact o2.elim
    | some p =>
      obtain ⟨d, cs3⟩ := p
      rw [e] at o2
      exact hs α1 F1 cs1 H1 x [] d cs3 v [] rc1 r1 rfl e Q fun α3 F3 H3 u lt3 rc3 r3 => o2.v lt3 rc3 u r3
  · rw [if_neg hok] at o1
    exact o1.elim
theorem br_m0 {name : Str} {Ty id : String} {r : V → List V → Hp → VK → Prop} {ok : Mi.Cs → Mi.D → Bool} {op : Mi.Cs → Mi.D → List Mi.D → Option (Mi.D × Mi.Cs)} (pa : PlainAttrs Ty) (slot : Slot Ty name id) (hty : typeOf (.builtin id) = pure (.type "method_descriptor")) (hm : MtR X id r)
    (hk : OkM X.K T Ty ok) (hs : OpM X.K T r op) (ho : PE X o (MV X.K T W ea))
    (hbase : attributeBase o name X.env (eval o X.env) = eval o X.env := by rfl) (hline : (apos.endLine == cpos.line) = true := by rfl) :
    PE X (.Call (.Attribute o name apos) [] [] cpos) (MV X.K T W (Mi.m1 ok op ea Mi.aNil)) := PE.imp (pe_bm0 pa slot hty hm ho hbase hline) (mv_bm0 hk hs)
theorem bs_aug2 {i : Nat} {x : Str} {e : Expr} {op : Operator} {r : R2} {f : Mi.Cs → Mi.D → Mi.D → Option Mi.D} {pos' : Pos} (hN : X.N.Nodup) (hi : X.N[i]? = some x) (hx : Loc X.env.scope x) (he : PE X e (MV X.K T W ea)) (ho : PIp X op r) (hs : Op2 X.K T r f)
    (hf : X.fn x = true ∨ X.env.scope.names.lookup x = some .local := by first | exact .inl rfl | exact .inr rfl | assumption) : PS X (.AugAssign (.Name x pos') op e pos) (MS X.K T W (Mi.sAug i f ea)) := PS.imp (ps_aug hN hi hx he ho hf) fun D σ H h => by
  obtain ⟨α, F, env, cs, rc, ev, h⟩ := h
  unfold Mi.sAug at h
  split at h
  · rename_i d e
    obtain ⟨v, h1, h2⟩ := ev.at_ i d e
    refine ⟨v, h1, α, F, env, cs, rc, ev, (OutS.thn ev h).mono fun α1 F1 cs1 H1 y lt1 rc1 o1 w r1 => ?_⟩
    cases q : f cs1 d y with
    | none => rw [q] at o1; exact o1.elim
    | some z =>
      rw [q] at o1
      refine hs α1 F1 cs1 H1 d y z v w rc1 (Rp.mono lt1.toLt _ _ h2) r1 q _ fun α2 F2 H2 u lt2 rc2 r2 => ?_
      exact o1 _ _ _ _ lt2 rc2 ((ev.mono (lt1.trans lt2).toLt).set r2 i)
  · exact h.elim
theorem iop_mulW : PIp X .Mult (rI CMulW fun i j => .int (i * j)) := opI fun _ _ _ _ _ _ _ hc q => imul_int q hc.ok
theorem br_cutT {lo hi : Option Expr} {el eh : Option Mi.E} (ha : PE X a (MV X.K T W ea)) (hl : PO X lo (MO X.K T W el)) (hh : PO X hi (MO X.K T W eh)) : PE X (.Subscript a (.Slice lo hi none p2) pos) (MV X.K T W (Mi.eCutT ea el eh)) :=
  PE.imp (pe_slice sl_tupA ha hl hh) fun σ H Q h => by
    obtain ⟨α, F, env, cs, rc, ev, h⟩ := h
    refine ⟨α, F, env, cs, rc, ev, h.bnd.mono fun α1 F1 cs1 H1 x lt1 rc1 o1 v r1 => ?_⟩
    refine ⟨α1, F1, env, cs1, rc1, ev.mono lt1.toLt, o1.bnd.mono fun α2 F2 cs2 H2 i lt2 rc2 o2 => ?_⟩
    refine ⟨α2, F2, env, cs2, rc2, ev.mono (lt1.trans lt2).toLt, o2.bnd.mono fun α3 F3 cs3 H3 j lt3 rc3 o3 => ?_⟩
    obtain ⟨xs, e, _⟩ := o3.out rc3
    rw [e] at o3
    cases e2 : Mi.tupOf x with
    | none => rw [e2] at e; cases e
    | some ys =>
      rw [e2] at e
      cases e
      cases x <;> simp only [Mi.tupOf, reduceCtorEq] at e2
      cases e2
      obtain ⟨q, vs, rfl, s, r⟩ := Rp.mono (lt2.trans lt3).toLt _ _ r1
      refine ⟨q, vs, rfl, same_sqT rc3.same s, fun hw => ?_, fun hw p hp => ?_⟩
      · have ec : cutV vs i j = vs := by
          unfold cutV
          rw [hw.1, hw.2]
          first
            | (rw [List.drop_zero, Nat.sub_zero, List.take_length])
            | simp
        have rr := r.cut (lo := i) (hi := j)
        rw [ec] at rr
        exact o3.v (Nx.refl _ _ _) rc3 (.ref q) ⟨q, vs, rfl, s, rr⟩
      · obtain ⟨rc4, nx4⟩ := rc3.ground (o := .tup (cutV vs i j)) hp
        exact o3.v nx4 rc4 (.ref p) ⟨p, _, rfl, .inl (.inl upd_same), (r.mono' nx4.toLt).cut⟩
end
end Br
end
section
set_option Elab.async false
set_option linter.all false
set_option maxRecDepth 100000
set_option maxHeartbeats 4000000
namespace Br
open PySem PySem.Spec PyProof.Rows L2
theorem eq_of_sorted : ∀ {xs ys : List Int}, xs.Perm ys → xs.Pairwise (· ≤ ·) → ys.Pairwise (· ≤ ·) → xs = ys
  | [], ys, p, _, _ => (List.Perm.nil_eq p)
  | x :: xs, [], p, _, _ => absurd p.length_eq (by simp)
  | x :: xs, y :: ys, p, h1, h2 => by
    have h1' := List.pairwise_cons.mp h1
    have h2' := List.pairwise_cons.mp h2
    have e : x = y := by
      rcases List.mem_cons.mp (p.subset List.mem_cons_self) with e | e
      · exact e
      · rcases List.mem_cons.mp (p.symm.subset List.mem_cons_self) with e2 | e2
        · exact e2.symm
        · have := h1'.1 y e2
          have := h2'.1 x e
          omega
    subst e
    rw [eq_of_sorted (List.Perm.cons_inv p) h1'.2 h2'.2]
theorem sortI_ok (ns : List Int) : (Mi.sortI ns).Perm ns ∧ (Mi.sortI ns).Pairwise (· ≤ ·) := by
  refine ⟨List.mergeSort_perm ns _, ?_⟩
  have : (Mi.sortI ns).Pairwise fun a b => decide (a ≤ b) = true := List.pairwise_mergeSort (fun a b c h1 h2 => by
    simp at *
    omega) (fun a b => by
    simp
    omega) ns
  exact this.imp fun h => of_decide_eq_true h
section
variable {X : Cx} {T : Tab} {W : WX} {a b c o : Expr} {ea eb ec : Mi.E} {pos apos cpos p2 p : Pos}
theorem ints_keys : ∀ {ds : List Mi.D} {ns : List Int} {kvs : List (Key × V)}, Mi.intsOf ds = some ns → kvs.map (fun p => keyD p.1) = ds → kvs.map (·.1) = ns.map Sum.inl
  | [], ns, [], h, _ => by cases h; rfl
  | [], _, _ :: _, _, h => by cases h
  | _ :: _, _, [], _, h => by cases h
  | d :: ds, ns, kv :: kvs, h, h2 => by
    rw [List.map_cons] at h2
    injection h2 with e1 e2
    subst e1
    obtain ⟨k, v⟩ := kv
    cases k with
    | inr s => cases h
    | inl i =>
      have h : (Mi.intsOf ds).map (i :: ·) = some ns := h
      obtain ⟨ms, h3, rfl⟩ := Option.map_eq_some_iff.mp h
      rw [List.map_cons, ints_keys h3 e2]
      rfl
theorem bl_sortK (hc : X.calm = true) (hg : Gl X "sorted") (hm : X.mg "sorted" = none) (ha : PE X a (MV X.K T W ea)) (na : starEach [a] X.env = (false, eval a X.env) :: starEach [] X.env := by rfl) : PE X (.Call (.Name "sorted" p) [a] [] pos) (ML X.K T W (Mi.lSortK ea)) := by
  refine PE.imp (pe_callB (call_sortedDI hc) hg hm boot_sorted (pa_cons ha pa_nil na) (he := na)) fun σ H Q h => ?_
  obtain ⟨α, F, env, cs, rc, ev, h⟩ := h
  refine ⟨α, F, env, cs, rc, ev, h.bnd.mono fun α1 F1 cs1 H1 x lt1 rc1 o1 v r1 => ?_⟩
  cases e : Mi.dctOf cs1 x with
  | none => rw [e] at o1; exact o1.elim
  | some pr =>
    obtain ⟨ks, ws⟩ := pr
    rw [e] at o1
    simp only [Option.bind_some] at o1
    cases e2 : Mi.intsOf ks with
    | none => rw [e2] at o1; exact o1.elim
    | some ns =>
      rw [e2] at o1
      simp only [Option.bind_some] at o1
      by_cases hl : ns.length < 64
      · rw [if_pos hl] at o1
        obtain ⟨a, kvs, rfl, hd, m, r⟩ := dctOf_of rc1 r1 e
        refine ⟨a, kvs, ns, rfl, hd, ints_keys e2 m, hl, fun ys l py sy hp => ?_⟩
        obtain ⟨hf, ha⟩ := rc1.new_out hp
        have ey : ys = Mi.sortI ns := eq_of_sorted (py.trans (sortI_ok ns).1.symm) sy (sortI_ok ns).2
        subst ey
        exact o1.v (Nx.alloc hp) (rc1.alloc hp) l _ (lt1.dom l hp) upd_same hf ha (rps_ints _)
      · rw [if_neg hl] at o1
        exact o1.elim
theorem o_divmod {K : PySem.W.Frag} : Op2 K T (fun v w H Q => ∃ i j, [v, w] = [V.int i, V.int j] ∧ CDivP i j ∧ ∀ p, H p = none → Q (.ref p) (upd H p (.tup [.int (i / j), .int (i % j)]))) Mi.oDivmod := by
  intro α F cs H x y z v w rc rx ry e Q q
  unfold Mi.oDivmod at e
  split at e
  · rename_i i j
    split at e
    · rename_i hij
      cases e
      have ev : v = .int _ := rx
      have ew : w = .int _ := ry
      subst ev
      subst ew
      refine ⟨i, j, rfl, ⟨hij.1, ?_⟩, fun p hp => ?_⟩
      · exact PyProof.noPylong_of_log2 hij.2
      · obtain ⟨rc2, nx2⟩ := rc.ground (o := .tup [.int (i / j), .int (i % j)]) hp
        exact q _ _ _ _ nx2 rc2 ⟨p, _, rfl, .inl (.inl upd_same), _, _, rfl, rfl, _, _, rfl, rfl, rfl⟩
    · cases e
  · cases e
theorem o_is {K : PySem.W.Frag} : Op2 K T (fun x y H Q => ∃ a b, x = V.bl a ∧ y = .bl b ∧ Q (.bl (decide (a = b))) H) Mi.oIs := by
  intro α F cs H x y z v w rc rx ry e Q q
  unfold Mi.oIs at e
  split at e
  · cases e
    have ev : v = .bl _ := rx
    have ew : w = .bl _ := ry
    subst ev
    subst ew
    exact ⟨_, _, rfl, rfl, q _ _ _ _ (Nx.refl _ _ _) rc rfl⟩
  · cases e
theorem o_isnot {K : PySem.W.Frag} : Op2 K T (fun x y H Q => ∃ a b, x = V.bl a ∧ y = .bl b ∧ Q (.bl (!decide (a = b))) H) Mi.oIsNot := by
  intro α F cs H x y z v w rc rx ry e Q q
  unfold Mi.oIsNot at e
  split at e
  · cases e
    have ev : v = .bl _ := rx
    have ew : w = .bl _ := ry
    subst ev
    subst ew
    exact ⟨_, _, rfl, rfl, q _ _ _ _ (Nx.refl _ _ _) rc rfl⟩
  · cases e
theorem br_tupRange {pos2 : Pos} (hc : X.calm = true) (hg : Gl X "tuple") (hm : X.mg "tuple" = none) (hg2 : Gl X "range") (hm2 : X.mg "range" = none) (ha : PE X a (MV X.K T W ea))
    (na : starEach [.Call (.Name "range" p2) [a] [] pos2] X.env = (false, eval (.Call (.Name "range" p2) [a] [] pos2) X.env) :: starEach [] X.env := by rfl) (na2 : starEach [a] X.env = (false, eval a X.env) :: starEach [] X.env := by rfl) :
    PE X (.Call (.Name "tuple" p) [.Call (.Name "range" p2) [a] [] pos2] [] pos) (MV X.K T W (Mi.e1 Mi.oTupRange ea)) := by
  refine PE.imp (pe_tupRg hc hg hm (prg_1 hg2 hm2 ha na2) na) fun σ H Q h => ?_
  obtain ⟨α, F, env, cs, rc, ev, h⟩ := h
  refine ⟨α, F, env, cs, rc, ev, h.bnd.mono fun α1 F1 cs1 H1 x lt1 rc1 o1 v r1 => ?_⟩
  obtain ⟨z, e, _⟩ := o1.out rc1
  rw [e] at o1
  obtain ⟨xs, e1, rfl⟩ := Option.map_eq_some_iff.mp (show (Mi.rngOf x).map Mi.D.tup = some z from e)
  cases x <;> simp only [Mi.rngOf, reduceCtorEq] at e1
  · rename_i n
    by_cases hn : 0 ≤ n ∧ n ≤ 16777216
    · rw [if_pos hn] at e1
      cases e1
      refine ⟨n, r1, RgOk.of_le (by omega) hn.2 (by omega) hn.1, fun l hl => ?_⟩
      obtain ⟨rc2, nx2⟩ := rc1.ground (o := .tup (rgV 0 n)) hl
      exact o1.v nx2 rc2 (.ref l) ⟨l, _, rfl, .inl (.inl upd_same), rps_rng 0 n⟩
    · rw [if_neg hn] at e1
      cases e1
inductive ExL (K : PySem.W.Frag) (T : Tab) (v : Value) : List (Nat × Bool) → Prop
  | nil : ExL K T v []
  | cons {c : Nat} {C : Addr} {nm : List Str} {b : Bool} {l : List (Nat × Bool)} (t : T c = some (C, nm)) (e : PySem.W.exmOne K (.ref C) v = some b) (r : ExL K T v l) : ExL K T v ((c, b) :: l)
theorem ExL.ok {K : PySem.W.Frag} {T : Tab} {v : Value} {l : List (Nat × Bool)} (h : ExL K T v l) : ∀ c C nm b, T c = some (C, nm) → Mi.lk l c = some b → PySem.W.exmOne K (.ref C) v = some b := by
  induction h with
  | nil => intro c C nm b _ e; cases e
  | @cons c' C' nm' b' l t e r ih =>
    intro c C nm b ht hb
    unfold Mi.lk at hb
    split at hb
    · rename_i hc
      subst hc
      rw [t] at ht
      cases ht
      cases hb
      exact e
    · exact ih c C nm b ht hb
end
end Br
end
section
set_option Elab.async false
set_option linter.all false
set_option maxRecDepth 100000
set_option maxHeartbeats 4000000
namespace Br
open PySem PySem.Spec PyProof.Rows L2
section
variable {K : PySem.W.Frag} {T : Tab} {α : List Addr} {F : Hp}
theorem flat_of {d : Mi.D} {v : V} (h : Mi.flatD d = true) (r : Rp K T α F d v) : flatV v = true := by
  cases d <;> simp only [Mi.flatD, Bool.false_eq_true] at h
  · have e : v = .int _ := r
    rw [e]
    rfl
  · have e : v = .str _ := r
    rw [e]
    rfl
theorem eqV_of {d e : Mi.D} {v w : V} (h : Mi.flatD d = true) (h2 : Mi.flatD e = true) (r : Rp K T α F d v) (q : Rp K T α F e w) : eqV v w = decide (d = e) := by
  cases d <;> simp only [Mi.flatD, Bool.false_eq_true] at h <;> cases e <;> simp only [Mi.flatD, Bool.false_eq_true] at h2
  all_goals
    have e1 : v = _ := r
    have e2 : w = _ := q
    rw [e1, e2]
    simp [eqV]
    try rfl
    try exact beq_eq_decide _ _
theorem inV_of {x : Mi.D} {v : V} (h : Mi.flatD x = true) (r : Rp K T α F x v) : ∀ {xs : List Mi.D} {vs : List V}, xs.all Mi.flatD = true → Rps K T α F xs vs → vs.all flatV = true ∧ inV v vs = decide (x ∈ xs)
  | [], vs, _, q => by
    have e : vs = [] := q
    rw [e]
    exact ⟨rfl, by simp [inV]⟩
  | y :: ys, _, hh, q => by
    obtain ⟨w, ws, rfl, p, q⟩ := q
    rw [List.all_cons, Bool.and_eq_true] at hh
    obtain ⟨i1, i2⟩ := inV_of h r hh.2 q
    refine ⟨by rw [List.all_cons, flat_of hh.1 p, i1]; rfl, ?_⟩
    have e : inV v (w :: ws) = (eqV w v || inV v ws) := rfl
    rw [e, i2, eqV_of hh.1 h p r]
    by_cases h1 : y = x
    · simp [h1]
    · have : ¬ x = y := fun e => h1 e.symm
      by_cases h2 : x ∈ ys <;> simp [h1, h2, this]
theorem o_inF : Op2 K T (rIn K false) Mi.oInF := by
  intro α F cs H x y z v w rc rx ry e Q q
  unfold Mi.oInF at e
  cases hs : Mi.seqOf cs y with
  | none => rw [hs] at e; cases e
  | some xs =>
    rw [hs] at e
    simp only [Option.bind_some] at e
    split at e
    · rename_i hf
      cases e
      rw [Bool.and_eq_true] at hf
      obtain ⟨p, vs, rfl, hq, r⟩ := seqOf_of rc ry hs
      obtain ⟨i1, i2⟩ := inV_of hf.1 rx hf.2 r
      refine ⟨p, vs, rfl, hq, flat_of hf.1 rx, i1, q _ _ _ _ (Nx.refl _ _ _) rc ?_⟩
      show _ = V.bl _
      rw [if_neg Bool.false_ne_true, i2]
    · cases e
end
end Br
end
section
set_option Elab.async false
set_option linter.all false
set_option maxRecDepth 100000
set_option maxHeartbeats 4000000
namespace Br
open PySem PySem.Spec PyProof.Rows L2
theorem pick_back {n : Nat} {i : Int} (items : Array Value) (h0 : 0 ≤ i) (h1 : i < items.size) : slicePick items (some i) none (some (-1)) = (items.toList.take (i.toNat + 1)).reverse.toArray := by
  have hb : sliceBounds (some i) none (some (-1)) items.size = (i, -1, -1) := by
    simp [sliceBounds]
    omega
  have hr : sliceRange i (-1) (-1) = (List.range (i.toNat + 1)).map fun k => i.toNat + 1 - 1 - k := by
    have := PySem.W.krv_sliceRange (i.toNat + 1)
    rw [show (((i.toNat + 1 : Nat) : Int) - 1) = i by omega] at this
    exact this
  unfold slicePick
  rw [hb]
  dsimp only
  rw [hr]
  have e3 : (List.range (i.toNat + 1)).filterMap (items[·]?) = items.toList.take (i.toNat + 1) := by
    have h := pick_run items 0 (i.toNat + 1)
    rw [show ((0 + ·) : Nat → Nat) = id from funext fun k => Nat.zero_add k, List.map_id, List.drop_zero] at h
    exact h
  rw [PySem.W.krv_range, List.filterMap_reverse, e3]
def tRevF (K : PySem.W.Frag) (te : TE) (tl : TO) : TE := fun σ H Q => te σ H fun x H1 => tl σ H1 fun o H2 => ∃ a xs i, x = .ref a ∧ o = some i ∧ SqL K H2 a xs ∧ 0 ≤ i ∧ i < xs.length ∧ ∀ p, H2 p = none → Q (.ref p) (upd H2 p (.lst (xs.take (i.toNat + 1)).reverse))
section
variable {X : Cx} {T : Tab} {W : WX} {a e2 : Expr} {ea el : Mi.E} {k : Nat} {p1 p2 p3 pos : Pos}
theorem pe_revF {e : Expr} {te : TE} {tl : TO} (he : PE X e te) (hl : PO X (some e2) tl) :
    PE X (.Subscript e (.Slice (some e2) none (some (.UnaryOp .USub (.Constant (.int 1) k p1) p2)) p3) pos) (tRevF X.K te tl) := by
  refine ⟨fun pins s σ H Q I h => Subscript_ (thn (he.run pins s σ H _ I h) ?_)⟩
  rintro v s1 ⟨x, H1, I1, r1, q1⟩
  have hst : PO X (some (.UnaryOp .USub (.Constant (.int 1) k p1) p2)) (tPart (tUn (rU fun i => .int (-i)) (tC (.int 1)))) := po_some (pe_un un_neg pe_int)
  refine wpAny_Slice (thn (hl.run pins s1 σ H1 _ I1 q1) ?_)
  rintro vl s2 ⟨o, H2, I2, pl, b, xs, i, rfl, rfl, hx, i0, i1, q⟩
  cases r1
  refine thn (po_none.run pins s2 σ H2 (fun o H3 => o = none ∧ H3 = H2) I2 ⟨rfl, rfl⟩) ?_
  rintro vu s3 ⟨u, H3, I3, pu, rfl, rfl⟩
  refine thn (hst.run pins s3 σ H3 (fun o H4 => o = some (-1) ∧ H4 = H3) I3 ⟨1, rfl, -1, rfl, rfl, rfl⟩) ?_
  rintro vs s4 ⟨o, H4, I4, ps, rfl, rfl⟩
  have I5 : Inv X pins σ H4 { s4 with heap := s4.heap.push { cls := .type "slice", data := .fields #[vl, vu, vs] } } := I4.kept (t' := s4.toks) fun b ob q => Heap.get?_push_of_some _ q
  obtain ⟨its, r, ht, hz⟩ := I5.list hx
  have hlen := r.length
  show wpAny (model X.prog X.w) X.A (subscriptTail e (.Slice (some e2) none (some (.UnaryOp .USub (.Constant (.int 1) k p1) p2)) p3) (.ref b) (.ref s4.heap.objs.size)) (EP X pins σ Q) X.xe { s4 with heap := s4.heap.push { cls := .type "slice", data := .fields #[vl, vu, vs] } }
  refine tail_any (ops := [.ref b, .ref s4.heap.objs.size]) ht.isList.typeIs (PySem.slot_list_getitem.lookup) ?_ (by with_unfolding_all rfl)
  refine wpAny_getItem_list_slice ht.isList (Heap.IsSliceOf.new _ vl vu vs) pl pu ps (by decide) ?_ (by rw [List.size_toArray]; omega)
  rw [pick_back its.toArray i0 (by rw [List.size_toArray]; omega)]
  refine ⟨.ref _, _, I5.laid (t' := s4.toks) (o := .lst (xs.take (i.toNat + 1)).reverse) (fun b ob q => Heap.get?_push_of_some _ q) (Nat.le_refl _) ?_, rfl, q _ (I5.hok.fresh (Nat.le_refl _))⟩
  refine ⟨?_, _, 0, (r.take (i.toNat + 1)).reverse, Heap.get?_push_size _ rfl⟩
  · rw [List.length_reverse, List.length_take]
    omega
  all_goals exact 0
theorem bl_backF (ha : PE X a (MV X.K T W ea)) (hl : PE X e2 (MV X.K T W el)) : PE X (.Subscript a (.Slice (some e2) none (some (.UnaryOp .USub (.Constant (.int 1) k p1) p2)) p3) pos) (ML X.K T W (Mi.lBackF ea el)) :=
  PE.imp (pe_revF ha (bo_some hl)) fun σ H Q h => by
    obtain ⟨α, F, env, cs, rc, ev, h⟩ := h
    refine ⟨α, F, env, cs, rc, ev, h.bnd.mono fun α1 F1 cs1 H1 x lt1 rc1 o1 v r1 => ?_⟩
    refine ⟨α1, F1, env, cs1, rc1, ev.mono lt1.toLt, o1.bnd.mono fun α2 F2 cs2 H2 y lt2 rc2 o2 => ?_⟩
    cases e : Mi.lstOf cs2 x with
    | none => rw [e] at o2; exact o2.elim
    | some xs =>
      rw [e] at o2
      simp only [Option.bind_some] at o2
      cases y with
      | none => exact o2.elim
      | some i =>
        dsimp only at o2
        by_cases hi : 0 ≤ i ∧ i < (xs.length : Int)
        · rw [if_pos hi] at o2
          obtain ⟨q, vs, rfl, s, r⟩ := lstOf_of rc2 (Rp.mono lt2.toLt _ _ r1) e
          refine ⟨q, vs, i, rfl, rfl, s, hi.1, by rw [r.length]; exact hi.2, fun p hp => ?_⟩
          obtain ⟨hf, ha⟩ := rc2.new_out hp
          exact o2.v (Nx.alloc hp) (rc2.alloc hp) p _ ((lt1.trans lt2).dom p hp) upd_same hf ha (r.take _).reverse
        · rw [if_neg hi] at o2
          exact o2.elim
end
theorem exm_by {K : PySem.W.Frag} {S C : Addr} {b : Bool} (h1 : PySem.W.subIn K (.ref C) (.type "BaseException") = some true) (h2 : PySem.W.isClsIn K C = true) (h3 : PySem.W.typeIn K (.ref C) = some (.type "type")) (h4 : PySem.W.subIn K (.ref S) (.ref C) = some b) :
    PySem.W.exmOne K (.ref S) (.ref C) = some b := by
  have e1 : (PySem.W.subIn K (.ref C) (.type "BaseException") == some true) = true := by rw [h1] <;> rfl
  have e2 : ((PySem.W.clsIn K C).isSome && PySem.W.typeIn K (.ref C) == some (.type "type")) = true := by
    rw [show (PySem.W.clsIn K C).isSome = true from h2, h3] <;> rfl
  unfold PySem.W.exmOne PySem.W.kitCls
  rw [if_pos e1]
  show (if ((PySem.W.clsIn K C).isSome && PySem.W.typeIn K (.ref C) == some (.type "type")) = true then PySem.W.subIn K (.ref S) (.ref C) else none) = some b
  rw [if_pos e2]
  exact h4
theorem sp_any {K : PySem.W.Frag} {f : Mi.Fn} {H : Hp} {a : Addr} {ns : List Int} (hS : SqL K H a (ns.map V.int)) (h : ∃ cs, f [.fro (ns.map .int)] [] = some (.v (.bl true) cs)) :
    ∀ T : Tab, spM K T f [.ref a] H (fun v _ => v = .bl true) (fun _ _ _ => False) := fun T => sp_script hS h
end Br
end
section
set_option linter.all false
namespace Mi
open PySem
def got {β : Type} (m : Option β) (Q : β → Prop) : Prop := ∃ b, m = some b ∧ Q b
def kont {α β : Type} (f : α → Cs → Option (R β)) (Q : R β → Prop) : R α → Prop
  | .v a cs => got (f a cs) Q
  | .x c cs => Q (.x c cs)
def kontS {α : Type} (env : Env) (f : α → Cs → Option O) (Q : O → Prop) : R α → Prop
  | .v a cs => got (f a cs) Q
  | .x c cs => Q (.x c env cs)
def seqK (b : S) (Q : O → Prop) : O → Prop
  | .nx env cs => got (b env cs) Q
  | o => Q o
section
variable {α β γ : Type} {Q : β → Prop}
@[simp] theorem got_some {b : β} : got (some b) Q = Q b := by simp [got]
@[simp] theorem got_none : got (none : Option β) Q = False := by simp [got]
@[simp] theorem got_map {m : Option α} {f : α → β} : got (m.map f) Q = got m fun a => Q (f a) := by cases m <;> simp
@[simp] theorem got_bind {m : Option α} {f : α → Option β} : got (m.bind f) Q = got m fun a => got (f a) Q := by cases m <;> simp
@[simp] theorem got_ite {c : Prop} [Decidable c] {a b : Option β} : got (if c then a else b) Q = if c then got a Q else got b Q := by split <;> rfl
theorem got.mono {m : Option β} {Q' : β → Prop} (h : got m Q) (i : ∀ b, Q b → Q' b) : got m Q' := by
  obtain ⟨b, e, q⟩ := h
  exact ⟨b, e, i b q⟩
theorem got.to {m : Option β} (h : got m Q) : ∃ b, m = some b ∧ Q b := h
variable {env : Env} {cs : Cs}
@[simp] theorem kont_v {a : α} {f : α → Cs → Option (R γ)} {Q : R γ → Prop} : kont f Q (.v a cs) = got (f a cs) Q := rfl
@[simp] theorem kont_x {c : Nat} {f : α → Cs → Option (R γ)} {Q : R γ → Prop} : kont f Q (.x c cs) = Q (.x c cs) := rfl
@[simp] theorem kontS_v {a : α} {f : α → Cs → Option O} {Q : O → Prop} : kontS env f Q (.v a cs) = got (f a cs) Q := rfl
@[simp] theorem kontS_x {c : Nat} {f : α → Cs → Option O} {Q : O → Prop} : kontS env f Q (.x c cs) = Q (.x c env cs) := rfl
@[simp] theorem seqK_nx {b : S} {Q : O → Prop} : seqK b Q (.nx env cs) = got (b env cs) Q := rfl
@[simp] theorem seqK_rt {b : S} {Q : O → Prop} {d} : seqK b Q (.rt d cs) = Q (.rt d cs) := rfl
@[simp] theorem seqK_bk {b : S} {Q : O → Prop} : seqK b Q (.bk env cs) = Q (.bk env cs) := rfl
@[simp] theorem seqK_ct {b : S} {Q : O → Prop} : seqK b Q (.ct env cs) = Q (.ct env cs) := rfl
@[simp] theorem seqK_x {b : S} {Q : O → Prop} {c} : seqK b Q (.x c env cs) = Q (.x c env cs) := rfl
@[simp] theorem got_bnd {m : Option (R α)} {f : α → Cs → Option (R γ)} {Q : R γ → Prop} : got (bnd m f) Q = got m (kont f Q) := by
  match m with
  | none => simp [bnd]
  | some (.v a cs) => simp
  | some (.x c cs) => simp
@[simp] theorem got_out {m : Option α} {Q : R α → Prop} : got (out m cs) Q = got m fun a => Q (.v a cs) := by simp [out]
@[simp] theorem got_thn {m : Option (R α)} {f : α → Cs → Option O} {Q : O → Prop} : got (thn env m f) Q = got m (kontS env f Q) := by
  match m with
  | none => simp [thn]
  | some (.v a cs) => simp
  | some (.x c cs) => simp
end
section
variable {env : Env} {cs : Cs} {Q : R D → Prop} {QL : R (List D) → Prop} {QS : O → Prop} {QI : R It → Prop}
@[simp] theorem got_eVar {i : Nat} : got (eVar i env cs) Q = got (env[i]?.bind id) fun d => Q (.v d cs) := by
  unfold eVar
  match env[i]? with
  | none => simp
  | some none => simp
  | some (some d) => simp
@[simp] theorem got_eC {d : D} : got (eC d env cs) Q = Q (.v d cs) := by simp [eC]
@[simp] theorem got_e1 {op a} : got (e1 op a env cs) Q = got (a env cs) (kont (fun x cs => out (op cs x) cs) Q) := by simp [e1]
@[simp] theorem got_e2 {op a b} : got (e2 op a b env cs) Q = got (a env cs) (kont (fun x cs => bnd (b env cs) fun y cs => out (op cs x y) cs) Q) := by simp [e2]
@[simp] theorem got_aNil : got (aNil env cs) QL = QL (.v [] cs) := by simp [aNil]
@[simp] theorem got_aCons {a r} : got (aCons a r env cs) QL = got (a env cs) (kont (fun x cs => bnd (r env cs) fun xs cs => some (.v (x :: xs) cs)) QL) := by simp [aCons]
@[simp] theorem got_eL {l} : got (eL l env cs) Q = got (l env cs) (kont (fun xs cs => some (.v (.lst xs) cs)) Q) := by simp [eL]
@[simp] theorem got_eLc {l} : got (eLc l env cs) Q = got (l env cs) (kont (fun xs cs => some (.v (.cell cs.length) (cs ++ [.lst xs]))) Q) := by simp [eLc]
@[simp] theorem got_eTup {l} : got (eTup l env cs) Q = got (l env cs) (kont (fun xs cs => if xs.length ≤ SIZE then some (.v (.tup xs) cs) else none) Q) := by simp [eTup]
@[simp] theorem got_lDisp {l} : got (lDisp l env cs) QL = got (l env cs) (kont (fun xs cs => if xs.length ≤ SIZE then some (.v xs cs) else none) QL) := by simp [lDisp]
@[simp] theorem got_eDc {ps} : got (eDc ps env cs) Q = got (dPairs ps env cs) (kont (fun qs cs => if qs.all (fun q => isKey q.1) && decide (qs.length ≤ 15) then some (.v (.cell cs.length) (cs ++ [.dct (puts qs ([], [])).1 (puts qs ([], [])).2])) else none) Q) := by simp [eDc]
@[simp] theorem got_dNil {Q : R (List (D × D)) → Prop} : got (dPairs [] env cs) Q = Q (.v [] cs) := by simp [dPairs]
@[simp] theorem got_dCons {k v r} {Q : R (List (D × D)) → Prop} : got (dPairs ((k, v) :: r) env cs) Q = got (k env cs) (kont (fun x cs => bnd (v env cs) fun y cs => bnd (dPairs r env cs) fun ps cs => some (.v ((x, y) :: ps) cs)) Q) := by simp [dPairs]
def boolK (f g : Cs → Prop) : R D → Prop
  | .v (.bl true) cs => f cs
  | .v (.bl false) cs => g cs
  | .v _ _ => False
  | .x _ _ => False
def testK (X : Nat → Cs → Prop) (f g : Cs → Prop) : R D → Prop
  | .v (.bl b) cs => if b = true then f cs else g cs
  | .v _ _ => False
  | .x c cs => X c cs
@[simp] theorem testK_bl {X f g} {b : Bool} : testK X f g (.v (.bl b) cs) = (if b = true then f cs else g cs) := rfl
@[simp] theorem testK_x {X f g} {c : Nat} : testK X f g (.x c cs) = X c cs := rfl
@[simp] theorem got_eAnd {a b} : got (eAnd a b env cs) Q = got (a env cs) (testK (fun c cs => Q (.x c cs)) (fun cs => got (b env cs) Q) (fun cs => Q (.v (.bl false) cs))) := by
  simp only [eAnd, got_bnd]
  congr 1
  funext r
  match r with
  | .x c cs => rfl
  | .v (.bl true) cs => simp
  | .v (.bl false) cs => simp
  | .v .non cs => simp [testK]
  | .v (.int _) cs => simp [testK]
  | .v (.str _) cs => simp [testK]
  | .v (.tup _) cs => simp [testK]
  | .v (.lst _) cs => simp [testK]
  | .v (.dct _ _) cs => simp [testK]
  | .v (.obj _ _) cs => simp [testK]
  | .v (.cell _) cs => simp [testK]
  | .v (.fro _) cs => simp [testK]
@[simp] theorem got_eOr {a b} : got (eOr a b env cs) Q = got (a env cs) (testK (fun c cs => Q (.x c cs)) (fun cs => Q (.v (.bl true) cs)) (fun cs => got (b env cs) Q)) := by
  simp only [eOr, got_bnd]
  congr 1
  funext r
  match r with
  | .x c cs => rfl
  | .v (.bl true) cs => simp
  | .v (.bl false) cs => simp
  | .v .non cs => simp [testK]
  | .v (.int _) cs => simp [testK]
  | .v (.str _) cs => simp [testK]
  | .v (.tup _) cs => simp [testK]
  | .v (.lst _) cs => simp [testK]
  | .v (.dct _ _) cs => simp [testK]
  | .v (.obj _ _) cs => simp [testK]
  | .v (.cell _) cs => simp [testK]
  | .v (.fro _) cs => simp [testK]
@[simp] theorem got_eIf {t a b} : got (eIf t a b env cs) Q = got (t env cs) (testK (fun c cs => Q (.x c cs)) (fun cs => got (a env cs) Q) (fun cs => got (b env cs) Q)) := by
  simp only [eIf, got_bnd]
  congr 1
  funext r
  match r with
  | .x c cs => rfl
  | .v (.bl true) cs => simp
  | .v (.bl false) cs => simp
  | .v .non cs => simp [testK]
  | .v (.int _) cs => simp [testK]
  | .v (.str _) cs => simp [testK]
  | .v (.tup _) cs => simp [testK]
  | .v (.lst _) cs => simp [testK]
  | .v (.dct _ _) cs => simp [testK]
  | .v (.obj _ _) cs => simp [testK]
  | .v (.cell _) cs => simp [testK]
  | .v (.fro _) cs => simp [testK]
@[simp] theorem got_sIf {t : E} {a b : S} : got (sIf t a b env cs) QS = got (t env cs) (testK (fun c cs => QS (.x c env cs)) (fun cs => got (a env cs) QS) (fun cs => got (b env cs) QS)) := by
  simp only [sIf, got_thn]
  congr 1
  funext r
  match r with
  | .x c cs => rfl
  | .v (.bl true) cs => simp
  | .v (.bl false) cs => simp
  | .v .non cs => simp [testK]
  | .v (.int _) cs => simp [testK]
  | .v (.str _) cs => simp [testK]
  | .v (.tup _) cs => simp [testK]
  | .v (.lst _) cs => simp [testK]
  | .v (.dct _ _) cs => simp [testK]
  | .v (.obj _ _) cs => simp [testK]
  | .v (.cell _) cs => simp [testK]
  | .v (.fro _) cs => simp [testK]
@[simp] theorem got_lList {a} : got (lList a env cs) QL = got (a env cs) (kont (fun x cs => out (seqOf cs x) cs) QL) := by simp [lList]
@[simp] theorem got_lRange {a} : got (lRange a env cs) QL = got (a env cs) (kont (fun x cs => out (rngOf x) cs) QL) := by simp [lRange]
@[simp] theorem got_lVals {a} : got (lVals a env cs) QL = got (a env cs) (kont (fun x cs => out ((cellD cs x).map fun p => p.2.2) cs) QL) := by simp [lVals]
@[simp] theorem got_lBack {a} : got (lBack a env cs) QL = got (a env cs) (kont (fun x cs => out ((lstOf cs x).map List.reverse) cs) QL) := by simp [lBack]
@[simp] theorem got_lSorted {a} : got (lSorted a env cs) QL = got (a env cs) (kont (fun x cs => out ((lstOf cs x).bind sortD) cs) QL) := by simp [lSorted]
@[simp] theorem got_lSortSet {a} : got (lSortSet a env cs) QL = got (a env cs) (kont (fun x cs => out (((lstOf cs x).bind intsOf).bind fun ns => if ns.length < 64 then some ((sortS ns).map .int) else none) cs) QL) := by simp only [lSortSet, got_bnd]
@[simp] theorem got_lAdd {a b} : got (lAdd a b env cs) QL = got (a env cs) (kont (fun x cs => bnd (b env cs) fun y cs => out ((ownOf cs x).bind fun xs => (ownOf cs y).bind fun ys => if xs.length + ys.length ≤ SIZE then some (xs ++ ys) else none) cs) QL) := by simp only [lAdd, got_bnd]
@[simp] theorem got_lCut {a lo hi} : got (lCut a lo hi env cs) QL = got (a env cs) (kont (fun x cs => bnd (partE lo env cs) fun l cs => bnd (partE hi env cs) fun h cs => out ((lstOf cs x).map fun xs => cut xs l h) cs) QL) := by simp only [lCut, got_bnd]
@[simp] theorem got_pN {Q : R (Option Int) → Prop} : got (partE none env cs) Q = Q (.v none cs) := by simp [partE]
@[simp] theorem got_pS {e} {Q : R (Option Int) → Prop} : got (partE (some e) env cs) Q = got (e env cs) (kont (fun y cs => out (partOf (some y)) cs) Q) := by simp [partE]
@[simp] theorem got_lComp {vs i g t e} : got (lComp vs i g t e env cs) QL = got (i env cs) (kont (fun it cs => lcLoop (wipe env vs) g t e it.chk it.items [] cs) QL) := by simp [lComp]
@[simp] theorem got_m1 {ok op a as} : got (m1 ok op a as env cs) Q = got (a env cs) (kont (fun x cs => if ok cs x then (bnd (as env cs) fun ys cs => (op cs x ys).map fun p => .v p.1 p.2) else none) Q) := by
  simp only [m1, got_bnd]
  congr 2
  funext x cs
  split
  · congr 1
    funext ys cs
    cases op cs x ys <;> rfl
  · rfl
@[simp] theorem got_iLst {a} : got (iLst a env cs) QI = got (a env cs) (kont (fun x cs => out ((lstOf cs x).map fun xs => ⟨xs, stays cs x⟩) cs) QI) := by simp only [iLst, got_bnd]
@[simp] theorem got_iTup {a} : got (iTup a env cs) QI = got (a env cs) (kont (fun x cs => out ((tupOf x).map fun xs => ⟨xs, fun _ => true⟩) cs) QI) := by simp only [iTup, got_bnd]
def rangeK (QI : R It → Prop) : R D → Prop
  | .v (.int n) cs => okR n = true ∧ QI (.v ⟨rng 0 n, fun _ => true⟩ cs)
  | .v _ _ => False
  | .x c cs => QI (.x c cs)
@[simp] theorem rangeK_int {n : Int} : rangeK QI (.v (.int n) cs) = (okR n = true ∧ QI (.v ⟨rng 0 n, fun _ => true⟩ cs)) := rfl
@[simp] theorem rangeK_x {c : Nat} : rangeK QI (.x c cs) = QI (.x c cs) := rfl
@[simp] theorem got_iRange {a} : got (iRange a env cs) QI = got (a env cs) (rangeK QI) := by
  simp only [iRange, got_bnd]
  congr 1
  funext r
  match r with
  | .x c cs => rfl
  | .v (.int n) cs => simp
  | .v (.bl _) cs => simp [rangeK]
  | .v .non cs => simp [rangeK]
  | .v (.str _) cs => simp [rangeK]
  | .v (.tup _) cs => simp [rangeK]
  | .v (.lst _) cs => simp [rangeK]
  | .v (.dct _ _) cs => simp [rangeK]
  | .v (.obj _ _) cs => simp [rangeK]
  | .v (.cell _) cs => simp [rangeK]
  | .v (.fro _) cs => simp [rangeK]
@[simp] theorem got_sNext : got (sNext env cs) QS = QS (.nx env cs) := by simp [sNext]
@[simp] theorem got_sSeq {a b : S} : got (sSeq a b env cs) QS = got (a env cs) (seqK b QS) := by
  unfold sSeq
  match a env cs with
  | none => simp
  | some (.nx env cs) => simp
  | some (.rt d cs) => simp
  | some (.bk env cs) => simp
  | some (.ct env cs) => simp
  | some (.x c env cs) => simp
@[simp] theorem got_sSet {i e} : got (sSet i e env cs) QS = got (e env cs) (kontS env (fun d cs => some (.nx (env.set i (some d)) cs)) QS) := by simp [sSet]
@[simp] theorem got_sAsg {g e} : got (sAsg g e env cs) QS = got (e env cs) (kontS env (fun d cs => (g d env cs).map fun env' => .nx env' cs) QS) := by simp [sAsg]
@[simp] theorem got_sPar {i j a b} : got (sPar i j a b env cs) QS = got (a env cs) (kontS env (fun x cs => thn env (b env cs) fun y cs => some (.nx ((env.set i (some x)).set j (some y)) cs)) QS) := by simp [sPar]
@[simp] theorem got_sAug {i op e} : got (sAug i op e env cs) QS = got (env[i]?.bind id) fun x => got (e env cs) (kontS env (fun y cs => (op cs x y).map fun z => .nx (env.set i (some z)) cs) QS) := by
  unfold sAug
  match env[i]? with
  | none => simp
  | some none => simp
  | some (some d) => simp
@[simp] theorem got_sExpr {e} : got (sExpr e env cs) QS = got (e env cs) (kontS env (fun _ cs => some (.nx env cs)) QS) := by simp [sExpr]
@[simp] theorem got_sRet {e} : got (sRet e env cs) QS = got (e env cs) (kontS env (fun d cs => some (.rt d cs)) QS) := by simp [sRet]
@[simp] theorem got_sRetN : got (sRetN env cs) QS = QS (.rt .non cs) := by simp [sRetN]
@[simp] theorem got_sRaise {c} : got (sRaise c env cs) QS = QS (.x c env cs) := by simp [sRaise]
@[simp] theorem got_sBreak : got (sBreak env cs) QS = QS (.bk env cs) := by simp [sBreak]
@[simp] theorem got_sCont : got (sCont env cs) QS = QS (.ct env cs) := by simp [sCont]
@[simp] theorem got_sPut {op o i e} : got (sPut op o i e env cs) QS = got (e env cs) (kontS env (fun v cs => thn env (o env cs) fun x cs => thn env (i env cs) fun y cs => (op cs x y v).map fun cs' => .nx env cs') QS) := by simp [sPut]
@[simp] theorem got_sFor {i g b} : got (sFor i g b env cs) QS = got (i env cs) (kontS env (fun it cs => forL g b it.chk it.items env cs) QS) := by simp [sFor]
@[simp] theorem gN_def {i d} : gN i d env cs = some (env.set i (some d)) := rfl
@[simp] theorem gT_tup {gs ds} : gT gs (.tup ds) env cs = gAll gs ds env cs := rfl
@[simp] theorem gAll_nil : gAll [] [] env cs = some env := rfl
@[simp] theorem gAll_cons {g gs d ds} : gAll (g :: gs) (d :: ds) env cs = (g d env cs).bind fun env' => gAll gs ds env' cs := rfl
@[simp] theorem got_call {f l} : got (call f l env cs) Q = got (l env cs) (kont f Q) := by simp [call]
def fnK (Q : R D → Prop) : O → Prop
  | .rt d cs => Q (.v d cs)
  | .nx _ cs => Q (.v .non cs)
  | .x c _ cs => Q (.x c cs)
  | _ => False
@[simp] theorem fnK_rt {d} : fnK Q (.rt d cs) = Q (.v d cs) := rfl
@[simp] theorem fnK_nx : fnK Q (.nx env cs) = Q (.v .non cs) := rfl
@[simp] theorem fnK_x {c} : fnK Q (.x c env cs) = Q (.x c cs) := rfl
theorem got_fn {ps n : Nat} {b : S} {xs : List D} (h : xs.length = ps) (k : got (b (xs.map some ++ List.replicate (n - ps) none) cs) (fnK Q)) : got (fn ps n b xs cs) Q := by
  unfold fn
  rw [if_pos h]
  obtain ⟨o, e, q⟩ := k
  rw [e]
  match o with
  | .rt d cs => simpa using q
  | .nx _ cs => simpa using q
  | .x c _ cs => simpa using q
  | .bk _ _ => exact q.elim
  | .ct _ _ => exact q.elim
end
section
variable {g : G} {b : S} {chk : Cs → Bool} {Q : O → Prop}
def turnK (I : Env → Cs → Prop) (Q : O → Prop) : O → Prop
  | .nx env cs => I env cs
  | .ct env cs => I env cs
  | .bk env cs => Q (.nx env cs)
  | o => Q o
@[simp] theorem turnK_nx {I env cs} : turnK I Q (.nx env cs) = I env cs := rfl
@[simp] theorem turnK_ct {I env cs} : turnK I Q (.ct env cs) = I env cs := rfl
@[simp] theorem turnK_bk {I env cs} : turnK I Q (.bk env cs) = Q (.nx env cs) := rfl
@[simp] theorem turnK_rt {I d cs} : turnK I Q (.rt d cs) = Q (.rt d cs) := rfl
@[simp] theorem turnK_x {I c env cs} : turnK I Q (.x c env cs) = Q (.x c env cs) := rfl
theorem got_forL (I : Nat → Env → Cs → Prop) (items : List D)
    (hc : ∀ i env cs, I i env cs → i ≤ items.length → chk cs = true)
    (step : ∀ i x env cs, items[i]? = some x → I i env cs → got (g x env cs) fun env1 => got (b env1 cs) (turnK (I (i + 1)) Q))
    (fin : ∀ env cs, I items.length env cs → Q (.nx env cs)) :
    ∀ (k : Nat) (r : List D), items.drop k = r → k ≤ items.length → ∀ env cs, I k env cs → got (forL g b chk r env cs) Q
  | k, [], e, hk, env, cs, h => by
    have : items.length ≤ k := by
      have := congrArg List.length e
      simp at this
      omega
    have : k = items.length := by omega
    subst this
    simp only [forL, hc _ _ _ h (Nat.le_refl _), if_true, got_some]
    exact fin _ _ h
  | k, x :: r, e, hk, env, cs, h => by
    have hx : items[k]? = some x := by
      have := congrArg (·[0]?) e
      simpa using this
    have hlt : k < items.length := (List.getElem?_eq_some_iff.mp hx).1
    have er : items.drop (k + 1) = r := by
      rw [← List.drop_drop, e]
      rfl
    simp only [forL, hc _ _ _ h hk, if_true]
    obtain ⟨env1, e1, h1⟩ := step k x env cs hx h
    rw [e1]
    dsimp only
    obtain ⟨o, eo, ho⟩ := h1
    rw [eo]
    match o with
    | .nx env' cs' => exact got_forL I items hc step fin (k + 1) r er (by omega) _ _ ho
    | .ct env' cs' => exact got_forL I items hc step fin (k + 1) r er (by omega) _ _ ho
    | .bk env' cs' => simpa using ho
    | .rt d cs' => simpa using ho
    | .x c env' cs' => simpa using ho
theorem got_for (I : Nat → Env → Cs → Prop) {items : List D} {env : Env} {cs : Cs} (h0 : I 0 env cs)
    (hc : ∀ i env cs, I i env cs → i ≤ items.length → chk cs = true)
    (step : ∀ i x env cs, items[i]? = some x → I i env cs → got (g x env cs) fun env1 => got (b env1 cs) (turnK (I (i + 1)) Q))
    (fin : ∀ env cs, I items.length env cs → Q (.nx env cs)) : got (forL g b chk items env cs) Q :=
  got_forL I items hc step fin 0 items rfl (Nat.zero_le _) env cs h0
theorem got_whileL {t : E} (I : Nat → Env → Cs → Prop)
    (step : ∀ n env cs, I n env cs → got (t env cs) (testK (fun c cs => Q (.x c env cs)) (fun cs => got (b env cs) (turnK (fun env cs => ∃ m, m < n ∧ I m env cs) Q)) (fun cs => Q (.nx env cs)))) :
    ∀ (f n : Nat) (env : Env) (cs : Cs), n < f → I n env cs → got (whileL t b f env cs) Q
  | 0, n, env, cs, h, _ => absurd h (Nat.not_lt_zero _)
  | f + 1, n, env, cs, h, hI => by
    have s := step n env cs hI
    simp only [whileL, got_thn]
    refine s.mono fun r q => ?_
    match r with
    | .x c cs' => simpa using q
    | .v (.bl true) cs' =>
      simp only [testK_bl, if_true] at q
      simp only [kontS_v]
      obtain ⟨o, eo, ho⟩ := q
      rw [eo]
      match o with
      | .nx env' cs' =>
        obtain ⟨m, hm, hI'⟩ := ho
        exact got_whileL I step f m _ _ (by omega) hI'
      | .ct env' cs' =>
        obtain ⟨m, hm, hI'⟩ := ho
        exact got_whileL I step f m _ _ (by omega) hI'
      | .bk env' cs' => simpa using ho
      | .rt d cs' => simpa using ho
      | .x c env' cs' => simpa using ho
    | .v (.bl false) cs' => simpa using q
    | .v .non cs => exact q.elim
    | .v (.int _) cs => exact q.elim
    | .v (.str _) cs => exact q.elim
    | .v (.tup _) cs => exact q.elim
    | .v (.lst _) cs => exact q.elim
    | .v (.dct _ _) cs => exact q.elim
    | .v (.obj _ _) cs => exact q.elim
    | .v (.cell _) cs => exact q.elim
    | .v (.fro _) cs => exact q.elim
theorem got_while {t : E} (I : Nat → Env → Cs → Prop) (n : Nat) {env : Env} {cs : Cs} (hn : n < FUEL) (h0 : I n env cs)
    (step : ∀ n env cs, I n env cs → got (t env cs) (testK (fun c cs => Q (.x c env cs)) (fun cs => got (b env cs) (turnK (fun env cs => ∃ m, m < n ∧ I m env cs) Q)) (fun cs => Q (.nx env cs)))) : got (sWhile t b env cs) Q :=
  got_whileL I step FUEL n env cs hn h0
theorem got_lc {env : Env} {t e : E} {QL : R (List D) → Prop} (I : Nat → List D → Cs → Prop) {items : List D} {cs : Cs} (h0 : I 0 [] cs)
    (hc : ∀ i acc cs, I i acc cs → i ≤ items.length → chk cs = true)
    (step : ∀ i x acc cs, items[i]? = some x → I i acc cs → got (g x env cs) fun env1 => got (t env1 cs) (testK (fun _ _ => False) (fun cs => got (e env1 cs) fun r => ∃ y cs', r = .v y cs' ∧ acc.length < SIZE ∧ I (i + 1) (acc ++ [y]) cs') (fun cs => I (i + 1) acc cs)))
    (fin : ∀ acc cs, I items.length acc cs → QL (.v acc cs)) : got (lcLoop env g t e chk items [] cs) QL := by
  suffices H : ∀ (r : List D) (k : Nat), items.drop k = r → k ≤ items.length → ∀ acc cs, I k acc cs → got (lcLoop env g t e chk r acc cs) QL from H items 0 rfl (Nat.zero_le _) [] cs h0
  intro r
  induction r with
  | nil =>
    intro k ek hk acc cs h
    have : items.length ≤ k := by
      have := congrArg List.length ek
      simp at this
      omega
    have : k = items.length := by omega
    subst this
    simp only [lcLoop, hc _ _ _ h (Nat.le_refl _), if_true, got_some]
    exact fin _ _ h
  | cons x r ih =>
    intro k ek hk acc cs h
    have hx : items[k]? = some x := by
      have := congrArg (·[0]?) ek
      simpa using this
    have hlt : k < items.length := (List.getElem?_eq_some_iff.mp hx).1
    have er : items.drop (k + 1) = r := by
      rw [← List.drop_drop, ek]
      rfl
    simp only [lcLoop, hc _ _ _ h hk, if_true]
    obtain ⟨env1, e1, r1, et, h1⟩ := step k x acc cs hx h
    rw [e1]
    dsimp only
    rw [et]
    match r1 with
    | .x c cs' => exact h1.elim
    | .v (.bl true) cs' =>
      simp only [testK_bl, if_true] at h1
      obtain ⟨r2, e2, y, cs2, rfl, hs, hI⟩ := h1
      dsimp only
      rw [e2]
      dsimp only
      rw [if_pos hs]
      exact ih (k + 1) er (by omega) _ _ hI
    | .v (.bl false) cs' =>
      simp only [testK_bl, if_neg Bool.false_ne_true] at h1
      exact ih (k + 1) er (by omega) _ _ h1
    | .v .non cs => exact h1.elim
    | .v (.int _) cs => exact h1.elim
    | .v (.str _) cs => exact h1.elim
    | .v (.tup _) cs => exact h1.elim
    | .v (.lst _) cs => exact h1.elim
    | .v (.dct _ _) cs => exact h1.elim
    | .v (.obj _ _) cs => exact h1.elim
    | .v (.cell _) cs => exact h1.elim
    | .v (.fro _) cs => exact h1.elim
end
end Mi
end
section
set_option linter.all false
namespace Mi
open PySem
section
variable {cs : Cs} {i j : Int} {n k : Nat} {xs ys : List D} {d e : D}
@[simp] theorem oAdd_i : oAdd cs (.int i) (.int j) = some (.int (i + j)) := rfl
@[simp] theorem oSub_i : oSub cs (.int i) (.int j) = some (.int (i - j)) := rfl
@[simp] theorem oMul_i : oMul cs (.int i) (.int j) = if i.natAbs.log2 + j.natAbs.log2 < 1000000 then some (.int (i * j)) else none := rfl
@[simp] theorem oDiv_i : oDiv cs (.int i) (.int j) = if 0 < j ∧ j.natAbs.log2 < 9000 then some (.int (i / j)) else none := rfl
@[simp] theorem oMod_i : oMod cs (.int i) (.int j) = if 0 < j then some (.int (i % j)) else none := rfl
@[simp] theorem oPow_i : oPow cs (.int i) (.int j) = if 0 ≤ j ∧ j ≤ 1000000 ∧ i.natAbs < 2 ^ 64 then some (.int (i ^ j.toNat)) else none := rfl
@[simp] theorem oNeg_i : oNeg cs (.int i) = some (.int (-i)) := rfl
@[simp] theorem oAbs_i : oAbs cs (.int i) = some (.int (if i < 0 then -i else i)) := rfl
@[simp] theorem oInt_i : oInt cs (.int i) = some (.int i) := rfl
@[simp] theorem oInt_b {b} : oInt cs (.bl b) = some (.int (if b then 1 else 0)) := rfl
@[simp] theorem oLt_i : oLt cs (.int i) (.int j) = some (.bl (decide (i < j))) := rfl
@[simp] theorem oLe_i : oLe cs (.int i) (.int j) = some (.bl (decide (i ≤ j))) := rfl
@[simp] theorem oGt_i : oGt cs (.int i) (.int j) = some (.bl (decide (j < i))) := rfl
@[simp] theorem oGe_i : oGe cs (.int i) (.int j) = some (.bl (decide (j ≤ i))) := rfl
@[simp] theorem oMin2_i : oMin2 cs (.int i) (.int j) = some (.int (if j < i then j else i)) := rfl
@[simp] theorem oMax2_i : oMax2 cs (.int i) (.int j) = some (.int (if j > i then j else i)) := rfl
@[simp] theorem oNot_b {b} : oNot cs (.bl b) = some (.bl (!b)) := rfl
@[simp] theorem oEqS_i : oEqS cs (.int i) (.int j) = some (.bl (decide (i = j))) := by
  have : (D.int i = D.int j) = (i = j) := by simp
  simp [oEqS, scal]
@[simp] theorem oNeS_i : oNeS cs (.int i) (.int j) = some (.bl (!decide (i = j))) := by simp [oNeS, scal]
@[simp] theorem oIx_i : oIx cs d (.int i) = (seqOf cs d).bind fun xs => atI xs i := rfl
@[simp] theorem oLen_d : oLen cs d = (seqOf cs d).map fun xs => .int xs.length := rfl
@[simp] theorem oTuple_d : oTuple cs d = (seqOf cs d).map .tup := rfl
@[simp] theorem seqOf_t : seqOf cs (.tup xs) = some xs := rfl
@[simp] theorem seqOf_l : seqOf cs (.lst xs) = some xs := rfl
@[simp] theorem seqOf_f : seqOf cs (.fro xs) = some xs := rfl
def lstC : Cell → Option (List D)
  | .lst xs => some xs
  | _ => none
def dctC : Cell → Option (List D × List D)
  | .dct ks vs => some (ks, vs)
  | .lck ks vs => some (ks, vs)
  | _ => none
def dctU : Cell → Option (List D × List D)
  | .dct ks vs => some (ks, vs)
  | _ => none
@[simp] theorem dctC_l : dctC (.lck xs ys) = some (xs, ys) := rfl
@[simp] theorem dctU_d : dctU (.dct xs ys) = some (xs, ys) := rfl
@[simp] theorem lstC_l : lstC (.lst xs) = some xs := rfl
@[simp] theorem dctC_d : dctC (.dct xs ys) = some (xs, ys) := rfl
@[simp] theorem lstOf_l : lstOf cs (.lst xs) = some xs := rfl
@[simp] theorem lstOf_f : lstOf cs (.fro xs) = some xs := rfl
@[simp] theorem lstOf_c : lstOf cs (.cell k) = cs[k]?.bind lstC := by
  simp only [lstOf]
  rcases cs[k]? with _ | ⟨_ | _ | _ | _ | _⟩ <;> rfl
@[simp] theorem seqOf_c : seqOf cs (.cell k) = cs[k]?.bind lstC := by
  show lstOf cs (.cell k) = _
  exact lstOf_c
@[simp] theorem ownOf_l : ownOf cs (.lst xs) = some xs := rfl
@[simp] theorem ownOf_c : ownOf cs (.cell k) = cs[k]?.bind lstC := by
  simp only [ownOf]
  rcases cs[k]? with _ | ⟨_ | _ | _ | _ | _⟩ <;> rfl
@[simp] theorem dctOf_c : dctOf cs (.cell k) = cs[k]?.bind dctC := by
  simp only [dctOf]
  rcases cs[k]? with _ | ⟨_ | _ | _ | _ | _⟩ <;> rfl
@[simp] theorem cellD_c : cellD cs (.cell k) = (cs[k]?.bind dctU).map fun p => (k, p.1, p.2) := by
  simp only [cellD]
  rcases cs[k]? with _ | ⟨_ | _ | _ | _ | _⟩ <;> rfl
@[simp] theorem cellL_c : cellL cs (.cell k) = (cs[k]?.bind lstC).map fun p => (k, p) := by
  simp only [cellL]
  rcases cs[k]? with _ | ⟨_ | _ | _ | _ | _⟩ <;> rfl
@[simp] theorem isL_c : isL cs (.cell k) = (cs[k]?.bind lstC).isSome := by simp [isL]
theorem atI_nat {α : Type} {xs : List α} {j : Nat} {x : α} (h : xs[j]? = some x) : atI xs (j : Int) = some x := by
  have := (List.getElem?_eq_some_iff.mp h).1
  unfold atI ixN
  rw [if_pos (by omega), if_pos (by omega)]
  simpa using h
theorem ixN_nat {n j : Nat} (h : j < n) : ixN n (j : Int) = some j := by
  unfold ixN
  rw [if_pos (by omega), if_pos (by omega)]
  simp
@[simp] theorem rngOf_i : rngOf (.int i) = if 0 ≤ i ∧ i ≤ 16777216 then some (rng 0 i) else none := rfl
@[simp] theorem tupOf_t : tupOf (.tup xs) = some xs := rfl
@[simp] theorem partOf_i : partOf (some (.int i)) = some (some i) := rfl
@[simp] theorem isKey_i : isKey (.int i) = true := rfl
@[simp] theorem isKey_s {s} : isKey (.str s) = true := rfl
@[simp] theorem oDGet_i : oDGet cs d (.int i) = (dctOf cs d).bind fun p => find (.int i) p.1 p.2 := by simp [oDGet]
@[simp] theorem oDIn_i : oDIn cs (.int i) d = (dctOf cs d).map fun p => .bl (find (.int i) p.1 p.2).isSome := by simp [oDIn]
@[simp] theorem oDNotIn_i : oDNotIn cs (.int i) d = (dctOf cs d).map fun p => .bl (!(find (.int i) p.1 p.2).isSome) := by simp [oDNotIn]
@[simp] theorem putD_i : putD cs d (.int i) e = (cellD cs d).bind fun p => if p.2.1.length < SIZE then some (cs.set p.1 (.dct (put (.int i) e p.2.1 p.2.2).1 (put (.int i) e p.2.1 p.2.2).2)) else none := by
  unfold putD
  cases cellD cs d with
  | none => rfl
  | some p => simp
@[simp] theorem putL_i : putL cs d (.int i) e = (cellL cs d).bind fun p => (ixN p.2.length i).map fun j => cs.set p.1 (.lst (p.2.set j e)) := by
  unfold putL
  cases cellL cs d with
  | none => rfl
  | some p => rfl
@[simp] theorem oAppend_d : oAppend cs d [e] = (cellL cs d).bind fun p => if p.2.length < SIZE then some (.non, cs.set p.1 (.lst (p.2 ++ [e]))) else none := by
  unfold oAppend
  cases cellL cs d with
  | none => rfl
  | some p => rfl
@[simp] theorem oExtend_d : oExtend cs d [e] = (cellL cs d).bind fun p => (ownOf cs e).bind fun zs => if p.2.length + zs.length ≤ SIZE then some (.non, cs.set p.1 (.lst (p.2 ++ zs))) else none := by
  simp only [oExtend]
  rcases cellL cs d with _ | p
  · rfl
  · show (match ownOf cs e with | some zs => if p.2.length + zs.length ≤ SIZE then some (D.non, cs.set p.1 (.lst (p.2 ++ zs))) else none | none => none) = (ownOf cs e).bind fun zs => _
    rcases ownOf cs e with _ | zs <;> rfl
@[simp] theorem oInsert_d : oInsert cs d [.int i, e] = (cellL cs d).bind fun p => if 0 ≤ i ∧ i.toNat ≤ p.2.length ∧ p.2.length < SIZE then some (.non, cs.set p.1 (.lst (p.2.take i.toNat ++ e :: p.2.drop i.toNat))) else none := by
  unfold oInsert
  cases cellL cs d with
  | none => rfl
  | some p => rfl
@[simp] theorem SIZE_eq : SIZE = 16777216 := rfl
@[simp] theorem oAll_d : oAll cs d = ((lstOf cs d).bind boolsOf).map fun bs => .bl (bs.all id) := rfl
@[simp] theorem oAny_d : oAny cs d = ((lstOf cs d).bind boolsOf).map fun bs => .bl (bs.any id) := rfl
theorem stays_pure (h : ∀ k, d ≠ .cell k) {cs' : Cs} : stays cs d cs' = true := by
  cases d <;> simp_all [stays]
@[simp] theorem stays_l {cs' : Cs} : stays cs (.lst xs) cs' = true := rfl
@[simp] theorem stays_f {cs' : Cs} : stays cs (.fro xs) cs' = true := rfl
end

mutual
def D.pure : D → Bool
  | .tup xs => D.pures xs
  | .lst xs => D.pures xs
  | .fro xs => D.pures xs
  | .dct ks vs => D.pures ks && D.pures vs
  | .obj _ fs => D.pures fs
  | .cell _ => false
  | _ => true
def D.pures : List D → Bool
  | [] => true
  | x :: xs => D.pure x && D.pures xs
end
mutual
theorem D.subst_pure (g : Nat → Option D) : ∀ d : D, d.pure = true → D.subst g d = some d
  | .non, _ => rfl
  | .bl _, _ => rfl
  | .int _, _ => rfl
  | .str _, _ => rfl
  | .tup xs, h => by
    simp only [D.subst, D.substs_pure g xs h, Option.map_some]
  | .lst xs, h => by
    simp only [D.subst, D.substs_pure g xs h, Option.map_some]
  | .fro xs, h => by
    simp only [D.subst, D.substs_pure g xs h, Option.map_some]
  | .dct ks vs, h => by
    simp only [D.pure, Bool.and_eq_true] at h
    simp only [D.subst, D.substs_pure g ks h.1, D.substs_pure g vs h.2, Option.map_some, Option.bind_some]
  | .obj _ fs, h => by
    simp only [D.subst, D.substs_pure g fs h, Option.map_some]
theorem D.substs_pure (g : Nat → Option D) : ∀ ds : List D, D.pures ds = true → D.substs g ds = some ds
  | [], _ => rfl
  | x :: xs, h => by
    simp only [D.pures, Bool.and_eq_true] at h
    simp only [D.substs, D.subst_pure g x h.1, D.substs_pure g xs h.2, Option.map_some, Option.bind_some]
end
mutual
theorem D.under_pure (n : Nat) : ∀ d : D, d.pure = true → d.under n = true
  | .non, _ => rfl
  | .bl _, _ => rfl
  | .int _, _ => rfl
  | .str _, _ => rfl
  | .tup xs, h => D.unders_pure n xs h
  | .lst xs, h => D.unders_pure n xs h
  | .fro xs, h => D.unders_pure n xs h
  | .dct ks vs, h => by
    simp only [D.pure, Bool.and_eq_true] at h
    simp only [D.under, D.unders_pure n ks h.1, D.unders_pure n vs h.2, Bool.and_self]
  | .obj _ fs, h => D.unders_pure n fs h
theorem D.unders_pure (n : Nat) : ∀ ds : List D, D.pures ds = true → D.unders n ds = true
  | [], _ => rfl
  | x :: xs, h => by
    simp only [D.pures, Bool.and_eq_true] at h
    simp only [D.unders, D.under_pure n x h.1, D.unders_pure n xs h.2, Bool.and_self]
end
theorem D.pures_iff {xs : List D} : D.pures xs = true ↔ ∀ x ∈ xs, D.pure x = true := by
  induction xs with
  | nil => simp [D.pures]
  | cons x xs ih => simp [D.pures, ih]
theorem frozen_pure {n : Nat} {cs : Cs} {d : D} (h : d.pure = true) : frozen n cs d = some d := D.subst_pure _ d h
theorem look_cell {n : Nat} {cs : Cs} {f k : Nat} {xs : List D} (hk : n ≤ k) (e : cs[k]? = some (.lst xs)) (h : D.pures xs = true) : look n cs (f + 1) k = some (.lst xs) := by
  simp only [look, if_neg (Nat.not_lt.mpr hk), e, Option.bind_some, Cell.subst, D.substs_pure _ xs h, Option.map_some]
theorem frozen_cell {n : Nat} {cs : Cs} {k : Nat} {xs : List D} (hk : n ≤ k) (e : cs[k]? = some (.lst xs)) (h : D.pures xs = true) : frozen n cs (.cell k) = some (.lst xs) := by
  show look n cs (7 + 1) k = _
  exact look_cell hk e h
theorem eqCell_rfl (c : Option Cell) : eqCell c c = true := by
  match c with
  | none => rfl
  | some (.lst xs) => simp [eqCell, D.beqs_rfl]
  | some (.dct ks vs) => simp [eqCell, D.beqs_rfl]
  | some (.obj c fs) => simp [eqCell, D.beqs_rfl]
  | some (.lck ks vs) => simp [eqCell, D.beqs_rfl]
  | some (.tdc ks vs) => simp [eqCell, D.beqs_rfl]
theorem popOk_of {n : Nat} {cs cs' : Cs} (h : ∀ k, k < n → cs'[k]? = cs[k]? ∨ ∃ c, cs'[k]? = some c ∧ c.under n = true) : popOk n cs cs' = true := by
  unfold popOk
  rw [List.all_eq_true]
  intro k hk
  rcases h k (List.mem_range.mp hk) with h | ⟨c, h, u⟩
  · rw [h, eqCell_rfl]
    rfl
  · rw [h]
    simp [okBelow, u]
theorem got_popped {f : Fn} {xs : List D} {cs : Cs} {Q : R D → Prop} (h : got (f xs cs) fun r => ∃ d own d', r = .v d (cs ++ own) ∧ frozen cs.length (cs ++ own) d = some d' ∧ Q (.v d' cs)) : got (popped f xs cs) Q := by
  obtain ⟨r, e, d, own, d', rfl, hf, q⟩ := h
  have p : popOk cs.length cs (cs ++ own) = true := popOk_of fun k hk => .inl (List.getElem?_append_left hk)
  refine ⟨.v d' cs, ?_, q⟩
  unfold popped
  rw [e]
  dsimp only
  rw [if_pos p, hf, Option.map_some, List.take_left]
theorem got_popped1 {f : Fn} {xs : List D} {cs : Cs} {k : Nat} {Q : R D → Prop} (h : got (f xs cs) fun r => ∃ d own d' ys, r = .v d (cs.set k (.lst ys) ++ own) ∧ D.pures ys = true ∧ frozen cs.length (cs.set k (.lst ys) ++ own) d = some d' ∧ Q (.v d' (cs.set k (.lst ys)))) : got (popped f xs cs) Q := by
  obtain ⟨r, e, d, own, d', ys, rfl, hp, hf, q⟩ := h
  have hl : (cs.set k (.lst ys)).length = cs.length := List.length_set
  have p : popOk cs.length cs (cs.set k (.lst ys) ++ own) = true := popOk_of fun j hj => by
    rw [List.getElem?_append_left (by rw [hl]; exact hj)]
    by_cases hjk : k = j
    · subst hjk
      right
      exact ⟨.lst ys, List.getElem?_set_self hj, D.unders_pure _ _ hp⟩
    · left
      exact List.getElem?_set_ne hjk
  refine ⟨.v d' (cs.set k (.lst ys)), ?_, q⟩
  unfold popped
  rw [e]
  dsimp only
  rw [if_pos p, hf, Option.map_some]
  rw [show (cs.set k (Cell.lst ys) ++ own).take cs.length = cs.set k (.lst ys) from by rw [← hl]; exact List.take_left ..]

section
variable {g : G} {chk : Cs → Bool} {env : Env} {t e : E} {QL : R (List D) → Prop}
theorem got_lc_map (h : D → D) {items : List D} {cs : Cs} (hc : chk cs = true) (hs : items.length ≤ SIZE)
    (step : ∀ x ∈ items, got (g x env cs) fun env1 => got (t env1 cs) fun r => r = .v (.bl true) cs ∧ got (e env1 cs) fun r => r = .v (h x) cs)
    (fin : QL (.v (items.map h) cs)) : got (lcLoop env g t e chk items [] cs) QL := by
  refine got_lc (fun i acc cs' => cs' = cs ∧ acc = (items.take i).map h) ⟨rfl, rfl⟩ (fun i acc cs' hI _ => by rw [hI.1]; exact hc) (fun i x acc cs' hx hI => ?_) fun acc cs' hI => ?_
  · obtain ⟨rfl, rfl⟩ := hI
    have hi : i < items.length := (List.getElem?_eq_some_iff.mp hx).1
    refine (step x (List.mem_of_getElem? hx)).mono fun env1 h1 => h1.mono fun r hr => ?_
    obtain ⟨rfl, h2⟩ := hr
    simp only [testK_bl, if_true]
    refine h2.mono fun r hr => ⟨h x, cs', hr, ?_, rfl, ?_⟩
    · rw [List.length_map, List.length_take]
      omega
    · rw [List.take_add_one, hx, List.map_append]
      rfl
  · obtain ⟨rfl, rfl⟩ := hI
    rw [List.take_length]
    exact fin
theorem got_lc_filter (p : D → Bool) (h : D → D) {items : List D} {cs : Cs} (hc : chk cs = true) (hs : items.length ≤ SIZE)
    (step : ∀ x ∈ items, got (g x env cs) fun env1 => got (t env1 cs) fun r => r = .v (.bl (p x)) cs ∧ (p x = true → got (e env1 cs) fun r => r = .v (h x) cs))
    (fin : QL (.v ((items.filter p).map h) cs)) : got (lcLoop env g t e chk items [] cs) QL := by
  refine got_lc (fun i acc cs' => cs' = cs ∧ acc = ((items.take i).filter p).map h) ⟨rfl, rfl⟩ (fun i acc cs' hI _ => by rw [hI.1]; exact hc) (fun i x acc cs' hx hI => ?_) fun acc cs' hI => ?_
  · obtain ⟨rfl, rfl⟩ := hI
    have hi : i < items.length := (List.getElem?_eq_some_iff.mp hx).1
    refine (step x (List.mem_of_getElem? hx)).mono fun env1 h1 => h1.mono fun r hr => ?_
    obtain ⟨rfl, h2⟩ := hr
    rw [testK_bl]
    by_cases hp : p x = true
    · rw [if_pos hp]
      refine (h2 hp).mono fun r hr => ⟨h x, cs', hr, ?_, rfl, ?_⟩
      · rw [List.length_map]
        have := List.length_filter_le p (items.take i)
        rw [List.length_take] at this
        omega
      · rw [List.take_add_one, hx, List.filter_append, List.map_append]
        simp [hp]
    · rw [if_neg hp]
      refine ⟨rfl, ?_⟩
      rw [List.take_add_one, hx, List.filter_append]
      simp [hp]
  · obtain ⟨rfl, rfl⟩ := hI
    rw [List.take_length]
    exact fin
end
end Mi
end
section
set_option linter.all false
namespace Mi
open PySem
abbrev hnd (a s c : Int) : Cell := .lst [.int a, .int s, .int c]
def Hs (cs : Cs) (k t : Nat) (own cs' : Cs) : Prop := ∃ a s c : Int, cs' = cs.set k (hnd a s c) ++ own ∧ k < cs.length ∧ 0 ≤ a ∧ 0 ≤ s ∧ s < 2147483647 ∧ 0 ≤ c ∧ c ≤ t
section
variable {cs cs0 cs1 cs2 own own' : Cs} {k t t' : Nat}
theorem Hs.at_ (h : Hs cs k t own cs1) : ∃ a s c : Int, cs1[k]? = some (hnd a s c) ∧ k < cs1.length ∧ 0 ≤ a ∧ 0 ≤ s ∧ s < 2147483647 ∧ 0 ≤ c ∧ c ≤ t := by
  obtain ⟨a, s, c, rfl, hk, h⟩ := h
  refine ⟨a, s, c, ?_, ?_, h⟩
  · rw [List.getElem?_append_left (by rw [List.length_set]; exact hk), List.getElem?_set_self hk]
  · rw [List.length_append, List.length_set]
    omega
theorem Hs.refl (h : Hs cs k t own cs1) : Hs cs1 k t [] cs1 := by
  obtain ⟨a, s, c, e, hk, hi⟩ := h.at_
  refine ⟨a, s, c, ?_, hk, hi⟩
  rw [List.append_nil]
  refine (List.ext_getElem? fun j => ?_)
  by_cases hj : k = j
  · subst hj
    rw [List.getElem?_set_self hk, e]
  · rw [List.getElem?_set_ne hj]
theorem Hs.trans (h : Hs cs k t own cs1) (h2 : Hs cs1 k t' [] cs2) : Hs cs k t' own cs2 := by
  obtain ⟨a, s, c, rfl, hk, _⟩ := h
  obtain ⟨a', s', c', rfl, _, hi⟩ := h2
  refine ⟨a', s', c', ?_, hk, hi⟩
  rw [List.append_nil, List.set_append_left _ _ (by rw [List.length_set]; exact hk), List.set_set]
theorem Hs.mono (h : Hs cs k t own cs1) (l : t ≤ t') : Hs cs k t' own cs1 := by
  obtain ⟨a, s, c, e, hk, h1, h2, h3, h4, h5⟩ := h
  exact ⟨a, s, c, e, hk, h1, h2, h3, h4, by omega⟩
theorem Hs.len (h : Hs cs k t own cs1) : cs1.length = cs.length + own.length := by
  obtain ⟨a, s, c, rfl, _⟩ := h
  rw [List.length_append, List.length_set]
theorem Hs.own_at (h : Hs cs k t own cs1) (j : Nat) : cs1[cs.length + j]? = own[j]? := by
  obtain ⟨a, s, c, rfl, _⟩ := h
  rw [List.getElem?_append_right (by rw [List.length_set]; omega), List.length_set]
  congr 1
  omega
theorem Hs.push (h : Hs cs k t own cs1) (c : Cell) : Hs cs k t (own ++ [c]) (cs1 ++ [c]) := by
  obtain ⟨a, s, c', rfl, hi⟩ := h
  exact ⟨a, s, c', by rw [List.append_assoc], hi⟩
theorem Hs.put (h : Hs cs k t own cs1) (j : Nat) (c : Cell) : Hs cs k t (own.set j c) (cs1.set (cs.length + j) c) := by
  obtain ⟨a, s, c', rfl, hi⟩ := h
  refine ⟨a, s, c', ?_, hi⟩
  rw [List.set_append_right _ _ (by rw [List.length_set]; omega), List.length_set, Nat.add_sub_cancel_left]
theorem got_poppedH {f : Fn} {xs : List D} {Q : R D → Prop} (h : got (f xs cs) fun r => ∃ d own cs' d' , r = .v d cs' ∧ Hs cs k t own cs' ∧ frozen cs.length cs' d = some d' ∧ ∀ cs2, Hs cs k t [] cs2 → Q (.v d' cs2)) : got (popped f xs cs) Q := by
  refine got_popped1 (k := k) (h.mono fun r hr => ?_)
  obtain ⟨d, own, cs', d', rfl, ⟨a, s, c, rfl, hk, hi⟩, hf, q⟩ := hr
  refine ⟨d, own, d', [.int a, .int s, .int c], rfl, rfl, hf, q _ ⟨a, s, c, ?_, hk, hi⟩⟩
  rw [List.append_nil]
end
def h_take : S :=
    (sSeq (sIf (e2 oGt (e2 oIx (eVar 0) (eC (.int 0))) (eC (.int 0))) (sSeq (sSet 2 (e2 oMod (e2 oIx (eVar 0) (eC (.int 0))) (eVar 1)))
    (sSeq (sPut putL (eVar 0) (eC (.int 0)) (e2 oDiv (e2 oIx (eVar 0) (eC (.int 0))) (eVar 1)))
    (sRet (eVar 2)))) sNext)
    (sSeq (sPut putL (eVar 0) (eC (.int 2)) (e2 oAdd (e2 oIx (eVar 0) (eC (.int 2))) (eC (.int 1))))
    (sSeq (sPut putL (eVar 0) (eC (.int 1)) (e2 oMod (e2 oAdd (e2 oAdd (e2 oMul (e2 oIx (eVar 0) (eC (.int 1))) (eC (.int 39373))) (eC (.int 12345))) (e2 oMul (eC (.int 31)) (e2 oIx (eVar 0) (eC (.int 2))))) (eC (.int 2147483647))))
    (sRet (e2 oMod (e2 oDiv (e2 oMod (e2 oMul (e2 oIx (eVar 0) (eC (.int 1))) (e2 oAdd (e2 oMod (e2 oIx (eVar 0) (eC (.int 1))) (eC (.int 40009))) (eC (.int 3)))) (eC (.int 2147483629))) (eC (.int 64))) (eVar 1))))))
theorem set_at {cs : Cs} {k : Nat} {c0 : Cell} (e : cs[k]? = some c0) (c : Cell) : (cs.set k c)[k]? = some c := List.getElem?_set_self (List.getElem?_eq_some_iff.mp e).1
theorem log_lt {n : Nat} (h : n < 2 ^ 128) : n.log2 < 128 := by
  by_cases h0 : n = 0
  · subst h0
    decide
  · exact (Nat.log2_lt h0).mpr h
theorem log_lt_i {i : Int} (h0 : 0 ≤ i) (h : i < 2 ^ 128) : i.natAbs.log2 < 128 := log_lt (by omega)
@[simp] theorem atI_0 {α : Type} {x : α} {r : List α} : atI (x :: r) 0 = some x := by
  have := atI_nat (xs := x :: r) (j := 0) (x := x) rfl
  simpa using this
@[simp] theorem atI_1 {α : Type} {x y : α} {r : List α} : atI (x :: y :: r) 1 = some y := by
  have := atI_nat (xs := x :: y :: r) (j := 1) (x := y) rfl
  simpa using this
@[simp] theorem atI_2 {α : Type} {x y z : α} {r : List α} : atI (x :: y :: z :: r) 2 = some z := by
  have := atI_nat (xs := x :: y :: z :: r) (j := 2) (x := z) rfl
  simpa using this
@[simp] theorem ixN_0 {n : Nat} : ixN (n + 1) 0 = some 0 := by
  have := ixN_nat (n := n + 1) (j := 0) (by omega)
  simpa using this
@[simp] theorem ixN_1 {n : Nat} : ixN (n + 2) 1 = some 1 := by
  have := ixN_nat (n := n + 2) (j := 1) (by omega)
  simpa using this
@[simp] theorem ixN_2 {n : Nat} : ixN (n + 3) 2 = some 2 := by
  have := ixN_nat (n := n + 3) (j := 2) (by omega)
  simpa using this
theorem take_ok {cs cs0 own : Cs} {k t : Nat} {m : Int} (h : Hs cs0 k t own cs) (hm : 0 < m) (hm2 : m < 2 ^ 64) (ht : t < 2 ^ 64) :
    got (popped (fn 2 3 h_take) [.cell k, .int m] cs) fun r => ∃ (d : Nat) (cs2 : Cs), r = .v (.int d) cs2 ∧ (d : Int) < m ∧ Hs cs0 k (t + 1) own cs2 := by
  refine got_poppedH (k := k) (t := t + 1) (got_fn rfl ?_)
  obtain ⟨a, s, c, e, hk, h1, h2, h3, h4, h5⟩ := h.at_
  have R := h.refl
  have hl : m.natAbs.log2 < 9000 := Nat.lt_of_lt_of_le (log_lt_i (by omega) (by omega)) (by decide)
  by_cases ha : 0 < a
  · simp [h_take, e, set_at e, hm, hl, ha]
    refine ⟨_, [], _, ⟨rfl, rfl⟩, ⟨a / m, s, c, ?_, hk, Int.ediv_nonneg h1 (by omega), h2, h3, h4, by omega⟩, _, frozen_pure rfl, fun cs2 h2 => ⟨(a % m).toNat, cs2, ⟨?_, rfl⟩, ?_, h.trans h2⟩⟩
    · simp
    · rw [Int.toNat_of_nonneg (Int.emod_nonneg _ (by omega))]
    · rw [Int.toNat_of_nonneg (Int.emod_nonneg _ (by omega))]
      exact Int.emod_lt_of_pos _ hm
  · have hc : ((c + 1).natAbs.log2) < 128 := log_lt_i (by omega) (by omega)
    have hs : (s.natAbs.log2) < 128 := log_lt_i (by omega) (by omega)
    have c1 : (39373 : Int).natAbs.log2 < 128 := log_lt_i (by omega) (by omega)
    have c2 : (31 : Int).natAbs.log2 < 128 := log_lt_i (by omega) (by omega)
    generalize es : (s * 39373 + 12345 + 31 * (c + 1)) % 2147483647 = s'
    have s1 : 0 ≤ s' := by rw [← es]; exact Int.emod_nonneg _ (by omega)
    have s2 : s' < 2147483647 := by rw [← es]; exact Int.emod_lt_of_pos _ (by omega)
    have hs' : (s'.natAbs.log2) < 128 := log_lt_i (by omega) (by omega)
    have hs2 : ((s' % 40009 + 3).natAbs.log2) < 128 := log_lt_i (by omega) (by omega)
    simp [h_take, e, set_at e, hm, ha, es]
    have q1 : s.natAbs.log2 + Nat.log2 39373 < 1000000 := by
      have : Nat.log2 39373 < 128 := c1
      omega
    have q2 : Nat.log2 31 + (c + 1).natAbs.log2 < 1000000 := by
      have : Nat.log2 31 < 128 := c2
      omega
    have q3 : s'.natAbs.log2 + (s' % 40009 + 3).natAbs.log2 < 1000000 := by omega
    have q4 : Nat.log2 64 < 9000 := by decide
    refine ⟨q1, q2, q3, q4, _, [], _, ⟨rfl, rfl⟩, ⟨a, s', c + 1, ?_, hk, h1, s1, s2, by omega, by omega⟩, _, frozen_pure rfl, fun cs2 h2 => ⟨(s' * (s' % 40009 + 3) % 2147483629 / 64 % m).toNat, cs2, ⟨?_, rfl⟩, ?_, h.trans h2⟩⟩
    · simp
    · rw [Int.toNat_of_nonneg (Int.emod_nonneg _ (by omega))]
    · rw [Int.toNat_of_nonneg (Int.emod_nonneg _ (by omega))]
      exact Int.emod_lt_of_pos _ hm
abbrev di (n : Nat) : D := .int (n : Int)
abbrev dis (p : List Nat) : List D := p.map di
theorem rng_nat (n : Nat) : rng 0 (n : Int) = dis (List.range n) := by
  unfold rng
  rw [Int.sub_zero, Int.toNat_natCast]
  refine List.map_congr_left fun k _ => ?_
  rw [Int.zero_add]
theorem rng_at {n i : Nat} {x : D} (h : (rng 0 (n : Int))[i]? = some x) : i < n ∧ x = di i := by
  rw [rng_nat, List.getElem?_map] at h
  by_cases hi : i < n
  · rw [List.getElem?_range hi] at h
    exact ⟨hi, (Option.some.inj h).symm⟩
  · rw [List.getElem?_eq_none (by rw [List.length_range]; omega)] at h
    cases h
theorem rng_len (n : Nat) : (rng 0 (n : Int)).length = n := by rw [rng_nat, List.length_map, List.length_range]
theorem pures_dis (p : List Nat) : D.pures (dis p) = true := D.pures_iff.mpr fun x hx => by
  obtain ⟨n, _, rfl⟩ := List.mem_map.mp hx
  rfl
@[simp] theorem okR_nat {n : Nat} : (okR (n : Int) = true) = (n < 2 ^ 62) := by
  unfold okR
  simp
  omega
def h_turning : S :=
    (sSeq (sSet 2 (eLc (lDisp aNil)))
    (sSeq (sFor (iRange (eVar 1)) (gN 3) (sExpr (m1 isL oInsert (eVar 2) (aCons (call (popped (fn 2 3 h_take)) (aCons (eVar 0) (aCons (e2 oAdd (eVar 3) (eC (.int 1))) aNil))) (aCons (eVar 3) aNil)))))
    (sRet (e1 oTuple (eVar 2)))))
theorem turning_ok {cs cs0 own : Cs} {k t n : Nat} (h : Hs cs0 k t own cs) (hn : n < 1000000) (ht : t + n < 2 ^ 64) :
    got (popped (fn 2 4 h_turning) [.cell k, .int n] cs) fun r => ∃ (p : List Nat) (cs2 : Cs), r = .v (.tup (dis p)) cs2 ∧ p.Perm (List.range n) ∧ Hs cs0 k (t + n) own cs2 := by
  refine got_poppedH (k := k) (t := t + n) (got_fn rfl ?_)
  have P := h.refl.push (.lst [])
  simp [h_turning]
  refine ⟨by omega, got_for (fun i env cs' => ∃ (p : List Nat) (x : Option D), p.Perm (List.range i) ∧ env = [some (.cell k), some (.int n), some (.cell cs.length), x] ∧ Hs cs k (t + i) [.lst (dis p)] cs')
    ⟨[], none, List.Perm.refl _, rfl, P⟩ (fun _ _ _ _ _ => rfl) (fun i x env cs' hx hI => ?_) fun env cs' hI => ?_⟩
  · obtain ⟨p, y, hp, rfl, hs⟩ := hI
    obtain ⟨hi, rfl⟩ := rng_at hx
    have o := hs.own_at 0
    rw [Nat.add_zero] at o
    have o2 : cs'[cs.length]? = some (.lst (dis p)) := o
    simp [o2]
    refine (take_ok hs (m := (i : Int) + 1) (by omega) (by omega) (by omega)).mono fun r hr => ?_
    obtain ⟨d, cs2, rfl, hd, hs2⟩ := hr
    have o3 := hs2.own_at 0
    rw [Nat.add_zero] at o3
    have o4 : cs2[cs.length]? = some (.lst (dis p)) := o3
    have pl : p.length = i := by rw [hp.length_eq, List.length_range]
    simp [o4, pl]
    have w := hs2.put 0 (.lst (dis (p.take d ++ i :: p.drop d)))
    refine ⟨by omega, p.take d ++ i :: p.drop d, ?_, ?_⟩
    · refine (List.perm_middle).trans ?_
      rw [List.take_append_drop, List.range_succ]
      exact (hp.cons i).trans (List.perm_append_comm (l₁ := [i]))
    · simpa [Nat.add_assoc] using w
  · obtain ⟨p, y, hp, rfl, hs⟩ := hI
    rw [rng_len] at hp hs
    have o := hs.own_at 0
    rw [Nat.add_zero] at o
    have o2 : cs'[cs.length]? = some (.lst (dis p)) := o
    simp [o2]
    refine ⟨_, _, _, ⟨rfl, rfl⟩, hs, _, frozen_pure ?_, fun cs2 h2 => ⟨p, cs2, ⟨rfl, rfl⟩, hp, h.trans h2⟩⟩
    exact pures_dis p
def h_pick : S :=
    (sRet (e2 oIx (eVar 1) (call (popped (fn 2 3 h_take)) (aCons (eVar 0) (aCons (e1 oLen (eVar 1)) aNil)))))
theorem pick_ok {cs cs0 own : Cs} {k t : Nat} {xs : List D} (h : Hs cs0 k t own cs) (hx : xs ≠ []) (hp : D.pures xs = true) (hl : xs.length < 1000000) (ht : t < 2 ^ 64) :
    got (popped (fn 2 2 h_pick) [.cell k, .lst xs] cs) fun r => ∃ (d : D) (cs2 : Cs), r = .v d cs2 ∧ d ∈ xs ∧ Hs cs0 k (t + 1) own cs2 := by
  refine got_poppedH (k := k) (t := t + 1) (got_fn rfl ?_)
  have h0 : 0 < xs.length := List.length_pos_iff.mpr hx
  simp [h_pick]
  refine (take_ok h.refl (m := (xs.length : Int)) (by omega) (by omega) ht).mono fun r hr => ?_
  obtain ⟨d, cs2, rfl, hd, hs2⟩ := hr
  have hd2 : d < xs.length := by omega
  simp [atI_nat (List.getElem?_eq_getElem hd2)]
  refine ⟨_, _, _, ⟨rfl, rfl⟩, hs2, _, frozen_pure (D.pures_iff.mp hp _ (List.getElem_mem hd2)), fun cs3 h3 => ⟨_, cs3, ⟨rfl, rfl⟩, List.getElem_mem hd2, h.trans h3⟩⟩
end Mi
end
section
set_option linter.all false
namespace Mi
open PySem
section
variable {α : Type} [DecidableEq α]
theorem nodup_sub : ∀ {l l2 : List α}, l.Nodup → (∀ x ∈ l, x ∈ l2) → l.length ≤ l2.length
  | [], _, _, _ => Nat.zero_le _
  | a :: t, l2, h, s => by
    have ha : a ∈ l2 := s a List.mem_cons_self
    have h' := List.nodup_cons.mp h
    have := nodup_sub (l := t) (l2 := l2.erase a) h'.2 fun x hx => (List.mem_erase_of_ne fun e => h'.1 (by rw [← e]; exact hx)).mpr (s x (List.mem_cons_of_mem _ hx))
    rw [List.length_erase_of_mem ha] at this
    have : 0 < l2.length := List.length_pos_of_mem ha
    simp only [List.length_cons]
    omega
theorem nodup_sup {l l2 : List α} (h : l.Nodup) (s : ∀ x ∈ l, x ∈ l2) (e : l2.length ≤ l.length) : ∀ x ∈ l2, x ∈ l := fun x hx => by
  by_cases hl : x ∈ l
  · exact hl
  · have := nodup_sub (l := x :: l) (l2 := l2) (List.nodup_cons.mpr ⟨hl, h⟩) fun y hy => by
      rcases List.mem_cons.mp hy with rfl | hy
      · exact hx
      · exact s y hy
    simp only [List.length_cons] at this
    omega
end
theorem nodup_lt {l : List Nat} {n : Nat} (h : l.Nodup) (s : ∀ x ∈ l, x < n) : l.length ≤ n := by
  have := nodup_sub (l2 := List.range n) h fun x hx => List.mem_range.mpr (s x hx)
  rwa [List.length_range] at this
theorem rise_eq : ∀ {l l2 : List Nat}, l.Pairwise (· < ·) → l2.Pairwise (· < ·) → (∀ x, x ∈ l ↔ x ∈ l2) → l = l2
  | [], [], _, _, _ => rfl
  | [], b :: _, _, _, h => absurd ((h b).mpr List.mem_cons_self) (List.not_mem_nil)
  | a :: _, [], _, _, h => absurd ((h a).mp List.mem_cons_self) (List.not_mem_nil)
  | a :: t, b :: u, p, q, h => by
    have p' := List.pairwise_cons.mp p
    have q' := List.pairwise_cons.mp q
    have e : a = b := by
      rcases List.mem_cons.mp ((h a).mp List.mem_cons_self) with e | e
      · exact e
      · rcases List.mem_cons.mp ((h b).mpr List.mem_cons_self) with e2 | e2
        · exact e2.symm
        · have := q'.1 a e
          have := p'.1 b e2
          omega
    subst e
    rw [rise_eq p'.2 q'.2 fun x => ⟨fun hx => ?_, fun hx => ?_⟩]
    · rcases List.mem_cons.mp ((h x).mp (List.mem_cons_of_mem _ hx)) with e | e
      · subst e
        exact absurd (p'.1 x hx) (Nat.lt_irrefl _)
      · exact e
    · rcases List.mem_cons.mp ((h x).mpr (List.mem_cons_of_mem _ hx)) with e | e
      · subst e
        exact absurd (q'.1 x hx) (Nat.lt_irrefl _)
      · exact e
theorem rise_range (n : Nat) : (List.range n).Pairwise (· < ·) := List.pairwise_lt_range
theorem rise_filter {l : List Nat} (h : l.Pairwise (· < ·)) (p : Nat → Bool) : (l.filter p).Pairwise (· < ·) := h.filter p
abbrev srt (l : List Nat) : List Nat := l.mergeSort fun a b => decide (a ≤ b)
theorem srt_perm (l : List Nat) : (srt l).Perm l := List.mergeSort_perm l _
theorem srt_rise {l : List Nat} (h : l.Nodup) : (srt l).Pairwise (· < ·) := by
  have s : (srt l).Pairwise fun a b => decide (a ≤ b) = true := List.pairwise_mergeSort (fun a b c h1 h2 => by
    simp at *
    omega) (fun a b => by
    simp
    omega) l
  have nd : (srt l).Nodup := (srt_perm l).nodup_iff.mpr h
  have : (srt l).Pairwise fun a b => decide (a ≤ b) = true ∧ a ≠ b := s.and nd
  refine this.imp fun h => ?_
  have := of_decide_eq_true h.1
  omega
theorem srt_filter {l : List Nat} {n : Nat} (h : l.Nodup) (s : ∀ x ∈ l, x < n) (p : Nat → Bool) (hp : ∀ x, x < n → (p x = true ↔ x ∈ l)) : srt l = (List.range n).filter p :=
  rise_eq (srt_rise h) (rise_filter (rise_range n) p) fun x => by
    rw [(srt_perm l).mem_iff, List.mem_filter, List.mem_range]
    exact ⟨fun hx => ⟨s x hx, (hp x (s x hx)).mpr hx⟩, fun hx => (hp x hx.1).mp hx.2⟩

theorem di_inj {a b : Nat} : di a = di b ↔ a = b := by
  simp
  omega
theorem dis_inj {a b : List Nat} : dis a = dis b ↔ a = b := by
  constructor
  · intro h
    have : (dis a).map (fun d => match d with | .int i => i.toNat | _ => 0) = (dis b).map (fun d => match d with | .int i => i.toNat | _ => 0) := by rw [h]
    simpa [List.map_map, Function.comp_def] using this
  · intro h
    rw [h]
theorem fit_di (a : Nat) : (di a).fit = true := rfl
theorem plains_iff {xs : List D} : D.plains xs = true ↔ ∀ x ∈ xs, D.plain x = true := by
  induction xs with
  | nil => simp [D.plains]
  | cons x xs ih => simp [D.plains, ih]
theorem depths_le {xs : List D} {k : Nat} (h : ∀ x ∈ xs, D.depth x ≤ k) : D.depths xs ≤ k := by
  induction xs with
  | nil => simp [D.depths]
  | cons x xs ih =>
    simp only [D.depths]
    have := h x List.mem_cons_self
    have := ih fun y hy => h y (List.mem_cons_of_mem _ hy)
    omega
theorem plain_dis (l : List Nat) : D.plains (dis l) = true := plains_iff.mpr fun x hx => by
  obtain ⟨n, _, rfl⟩ := List.mem_map.mp hx
  rfl
theorem depth_dis (l : List Nat) : D.depths (dis l) = 0 := Nat.le_zero.mp (depths_le fun x hx => by
  obtain ⟨n, _, rfl⟩ := List.mem_map.mp hx
  exact Nat.le_refl _)
abbrev dl (l : List Nat) : D := .lst (dis l)
abbrev tp (l : List Nat) : D := .tup (dis l)
abbrev dll (ls : List (List Nat)) : D := .lst (ls.map dl)
theorem fit_dl (l : List Nat) : (dl l).fit = true := by
  simp [D.fit, D.plain, D.depth, plain_dis, depth_dis]
theorem fit_tp (l : List Nat) : (tp l).fit = true := by
  simp [D.fit, D.plain, D.depth, plain_dis, depth_dis]
theorem fit_list {xs : List D} (h : ∀ x ∈ xs, x.plain = true ∧ x.depth ≤ 60) : (D.lst xs).fit = true := by
  simp only [D.fit, D.plain, D.depth, Bool.and_eq_true, decide_eq_true_eq]
  refine ⟨plains_iff.mpr fun x hx => (h x hx).1, ?_⟩
  have := depths_le (k := 60) fun x hx => (h x hx).2
  exact decide_eq_true (by omega)
theorem sortD_dis {l : List Nat} (h : l.length ≤ 16777216) : sortD (dis l) = some (dis (srt l)) := by
  have so : sortable (dis l) = true := by
    simp only [sortable, SIZE_eq, List.length_map, Bool.and_eq_true, Bool.or_eq_true, decide_eq_true_eq, List.all_eq_true]
    refine ⟨⟨fun x hx => ?_, .inr fun x hx => ?_⟩, h⟩
    · obtain ⟨n, _, rfl⟩ := List.mem_map.mp hx
      refine ⟨rfl, fun y hy => ?_⟩
      obtain ⟨m, _, rfl⟩ := List.mem_map.mp hy
      rfl
    · obtain ⟨n, _, rfl⟩ := List.mem_map.mp hx
      rfl
  unfold sortD
  rw [if_pos so]
  congr 1
  refine (List.map_mergeSort (f := di) fun a _ b _ => ?_).symm
  show decide (a ≤ b) = !decide ((b : Int) < (a : Int))
  by_cases hab : a ≤ b
  · have : ¬ ((b : Int) < (a : Int)) := by omega
    simp [hab, this]
  · have : (b : Int) < (a : Int) := by omega
    simp [hab, this]
def lexB : List Nat → List Nat → Bool
  | [], [] => false
  | [], _ :: _ => true
  | _ :: _, [] => false
  | x :: xs, y :: ys => if x = y then lexB xs ys else decide (x < y)
theorem ltDs_dis : ∀ a b : List Nat, ltDs (dis a) (dis b) = lexB a b
  | [], [] => rfl
  | [], _ :: _ => rfl
  | _ :: _, [] => rfl
  | x :: xs, y :: ys => by
    show (if di x = di y then ltDs (dis xs) (dis ys) else decide ((x : Int) < (y : Int))) = if x = y then lexB xs ys else decide (x < y)
    by_cases e : x = y
    · rw [if_pos e, if_pos (by rw [e]), ltDs_dis xs ys]
    · rw [if_neg e, if_neg (by rw [di_inj]; exact e)]
      by_cases l : x < y
      · have : (x : Int) < (y : Int) := by omega
        simp [l, this]
      · have : ¬ (x : Int) < (y : Int) := by omega
        simp [l, this]
theorem lexB_total : ∀ a b : List Nat, lexB a b = true → lexB b a = false
  | [], [], h => rfl
  | [], _ :: _, h => rfl
  | _ :: _, [], h => by cases h
  | x :: xs, y :: ys, h => by
    simp only [lexB] at h ⊢
    by_cases e : x = y
    · rw [if_pos e] at h
      rw [if_pos e.symm]
      exact lexB_total xs ys h
    · rw [if_neg e] at h
      rw [if_neg (Ne.symm e)]
      have := of_decide_eq_true h
      exact decide_eq_false (by omega)
abbrev leB (a b : List Nat) : Bool := !lexB b a
theorem leB_total (a b : List Nat) : (leB a b || leB b a) = true := by
  cases h : lexB b a
  · simp [leB, h]
  · simp [leB, lexB_total _ _ h]
theorem leB_trans : ∀ a b c : List Nat, leB a b = true → leB b c = true → leB a c = true
  | [], _, [], _, _ => rfl
  | [], _, _ :: _, _, _ => rfl
  | _ :: _, [], _, h, _ => by cases h
  | _ :: _, _ :: _, [], _, h => by cases h
  | x :: xs, y :: ys, z :: zs, h, h2 => by
    simp only [leB, lexB, Bool.not_eq_true'] at h h2 ⊢
    by_cases e : y = x
    · by_cases e2 : z = y
      · rw [if_pos e] at h
        rw [if_pos e2] at h2
        rw [if_pos (by omega)]
        have := leB_trans xs ys zs (by simp [leB, h]) (by simp [leB, h2])
        simpa [leB] using this
      · rw [if_neg e2] at h2
        rw [if_neg (by omega)]
        have := of_decide_eq_false h2
        exact decide_eq_false (by omega)
    · rw [if_neg e] at h
      have h' := of_decide_eq_false h
      by_cases e2 : z = y
      · rw [if_neg (by omega)]
        exact decide_eq_false (by omega)
      · rw [if_neg e2] at h2
        have h2' := of_decide_eq_false h2
        rw [if_neg (by omega)]
        exact decide_eq_false (by omega)
abbrev srtL (ls : List (List Nat)) : List (List Nat) := ls.mergeSort leB
theorem sortD_dll {ls : List (List Nat)} (h : ls.length ≤ 16777216) (hl : ∀ l ∈ ls, ∀ m ∈ ls, likeDs (dis l) (dis m) = true) : sortD (ls.map dl) = some ((srtL ls).map dl) := by
  have so : sortable (ls.map dl) = true := by
    simp only [sortable, SIZE_eq, List.length_map, Bool.and_eq_true, Bool.or_eq_true, decide_eq_true_eq, List.all_eq_true]
    refine ⟨⟨fun x hx => ?_, .inr fun x hx => ?_⟩, h⟩
    · obtain ⟨n, hn, rfl⟩ := List.mem_map.mp hx
      refine ⟨fit_dl n, fun y hy => ?_⟩
      obtain ⟨m, hm, rfl⟩ := List.mem_map.mp hy
      exact hl n hn m hm
    · obtain ⟨n, _, rfl⟩ := List.mem_map.mp hx
      rfl
  unfold sortD
  rw [if_pos so]
  congr 1
  refine (List.map_mergeSort (f := dl) fun a _ b _ => ?_).symm
  show (!lexB b a) = !ltDs (dis b) (dis a)
  rw [ltDs_dis]
theorem likeDs_dis : ∀ a b : List Nat, likeDs (dis a) (dis b) = true
  | [], [] => rfl
  | [], _ :: _ => rfl
  | _ :: _, [] => rfl
  | x :: xs, y :: ys => by
    show (true && likeDs (dis xs) (dis ys)) = true
    rw [likeDs_dis xs ys]
    rfl
theorem srtL_eq {ls ms : List (List Nat)} (hp : ms.Perm ls) (hs : ms.Pairwise fun a b => lexB a b = true) : srtL ls = ms := by
  have s : (srtL ls).Pairwise fun a b => leB a b = true := List.pairwise_mergeSort leB_trans leB_total ls
  have p : (srtL ls).Perm ms := (List.mergeSort_perm ls _).trans hp.symm
  clear hp
  generalize srtL ls = xs at s p
  induction ms generalizing xs with
  | nil => exact List.Perm.eq_nil p
  | cons m r ih =>
    have hs' := List.pairwise_cons.mp hs
    cases xs with
    | nil => exact absurd p.length_eq (by simp)
    | cons x xr =>
      have s' := List.pairwise_cons.mp s
      have e : x = m := by
        rcases List.mem_cons.mp (p.subset List.mem_cons_self) with e | e
        · exact e
        · have h1 := hs'.1 x e
          rcases List.mem_cons.mp (p.symm.subset List.mem_cons_self) with e2 | e2
          · exact e2.symm
          · have h2 := s'.1 m e2
            simp [leB, h1] at h2
      subst e
      rw [ih hs'.2 xr s'.2 (List.Perm.cons_inv p)]
end Mi
end
section
set_option linter.all false
set_option maxHeartbeats 1000000
namespace Mi
open PySem
abbrev tru (n : Nat) : List D := List.replicate n (.bl true)
abbrev sd (l : List Nat) : Cell := .dct (dis l) (tru l.length)
def addN (l : List Nat) (y : Nat) : List Nat := if y ∈ l then l else l ++ [y]
theorem find_tru (y : Nat) : ∀ l : List Nat, (find (di y) (dis l) (tru l.length)).isSome = decide (y ∈ l)
  | [] => rfl
  | x :: r => by
    have ih := find_tru y r
    show (if di x = di y then some (D.bl true) else find (di y) (dis r) (tru r.length)).isSome = _
    by_cases e : x = y
    · rw [if_pos (by rw [e])]
      simp [e]
    · rw [if_neg (by rw [di_inj]; exact e), ih]
      have : ¬ y = x := fun h => e h.symm
      simp [this]
theorem find_none (y : Nat) (l : List Nat) : (find (di y) (dis l) (tru l.length) = none) = (y ∉ l) := by
  have := find_tru y l
  cases h : find (di y) (dis l) (tru l.length) with
  | none =>
    rw [h] at this
    have := of_decide_eq_false this.symm
    simp [this]
  | some v =>
    rw [h] at this
    have := of_decide_eq_true this.symm
    simp [this]
theorem mem_dis {y : Nat} {l : List Nat} : di y ∈ dis l ↔ y ∈ l := by
  constructor
  · intro h
    obtain ⟨z, hz, e⟩ := List.mem_map.mp h
    rw [← di_inj.mp e]
    exact hz
  · intro h
    exact List.mem_map.mpr ⟨y, h, rfl⟩
theorem zip_tru (k : D) : ∀ l : List D, List.zipWith (fun k' v' => if k' = k then D.bl true else v') l (tru l.length) = tru l.length
  | [] => rfl
  | x :: r => by
    have ih := zip_tru k r
    show (if x = k then D.bl true else D.bl true) :: List.zipWith (fun k' v' => if k' = k then D.bl true else v') r (tru r.length) = _
    rw [ih]
    split <;> rfl
theorem put_tru (y : Nat) (l : List Nat) : put (di y) (.bl true) (dis l) (tru l.length) = (dis (addN l y), tru (addN l y).length) := by
  unfold put addN
  by_cases h : y ∈ l
  · rw [if_pos (mem_dis.mpr h), if_pos h]
    have := zip_tru (di y) (dis l)
    rw [List.length_map] at this
    rw [this]
  · rw [if_neg (fun e => h (mem_dis.mp e)), if_neg h]
    simp [List.replicate_succ']
theorem addN_mem {l : List Nat} {y z : Nat} : z ∈ addN l y ↔ z ∈ l ∨ z = y := by
  unfold addN
  split
  · rename_i h
    exact ⟨.inl, fun e => e.elim id fun e => e ▸ h⟩
  · simp
theorem addN_nodup {l : List Nat} (y : Nat) (h : l.Nodup) : (addN l y).Nodup := by
  unfold addN
  split
  · exact h
  · rename_i hy
    rw [List.nodup_append]
    refine ⟨h, by simp, fun a ha b hb => ?_⟩
    rw [List.mem_singleton] at hb
    subst hb
    exact fun e => hy (e ▸ ha)

inductive Reach (ms : List (List Nat)) (x : Nat) : Nat → Prop where
  | refl : Reach ms x x
  | step {y z : Nat} {m : List Nat} : Reach ms x y → m ∈ ms → m[y]? = some z → Reach ms x z
theorem Reach.trans {ms : List (List Nat)} {x y z : Nat} (h : Reach ms x y) (h2 : Reach ms y z) : Reach ms x z := by
  induction h2 with
  | refl => exact h
  | step _ hm e ih => exact ih.step hm e
theorem Reach.in_ {ms : List (List Nat)} {x : Nat} (S : Nat → Prop) (h0 : S x) (hs : ∀ y z m, S y → m ∈ ms → m[y]? = some z → S z) {y : Nat} (h : Reach ms x y) : S y := by
  induction h with
  | refl => exact h0
  | step _ hm e ih => exact hs _ _ _ ih hm e
abbrev Mk (n : Nat) (m : List Nat) : Prop := m.Perm (List.range n)
theorem Mk.at_ {n : Nat} {m : List Nat} (h : Mk n m) {y : Nat} (hy : y < n) : ∃ z, m[y]? = some z ∧ z < n := by
  have hl : m.length = n := by rw [h.length_eq, List.length_range]
  have : y < m.length := by omega
  refine ⟨m[y], List.getElem?_eq_getElem this, ?_⟩
  exact List.mem_range.mp (h.subset (List.getElem_mem this))
theorem Mk.lt {n : Nat} {m : List Nat} (h : Mk n m) {y z : Nat} (e : m[y]? = some z) : z < n := List.mem_range.mp (h.subset (List.mem_of_getElem? e))
theorem Reach.lt {ms : List (List Nat)} {n x y : Nat} (hm : ∀ m ∈ ms, Mk n m) (hx : x < n) (h : Reach ms x y) : y < n :=
  h.in_ (· < n) hx fun _ _ m _ hm' e => (hm m hm').lt e
theorem Mk.back {n : Nat} {m : List Nat} (h : Mk n m) (S : Nat → Prop) (hS : ∀ y z, y < n → S y → m[y]? = some z → S z) {y z : Nat} (hy : y < n) (e : m[y]? = some z) (hz : S z) : S y := by
  classical
  let l := (List.range n).filter fun a => decide (S a)
  have nl : l.Nodup := List.nodup_range.filter _
  have hl : m.length = n := by rw [h.length_eq, List.length_range]
  have nm : m.Nodup := h.nodup_iff.mpr List.nodup_range
  have inj : ∀ a b c : Nat, m[a]? = some c → m[b]? = some c → a = b := fun a b c h1 h2 => by
    have ha := (List.getElem?_eq_some_iff.mp h1).1
    exact (List.getElem?_inj ha nm).mp (h1.trans h2.symm)
  let f : Nat → Nat := fun a => m[a]?.getD 0
  have hf : ∀ a, a < n → m[a]? = some (f a) := fun a ha => by
    obtain ⟨b, hb, _⟩ := h.at_ ha
    show m[a]? = some (m[a]?.getD 0)
    rw [hb]
    rfl
  have mem : ∀ a, a ∈ l ↔ a < n ∧ S a := fun a => by
    show a ∈ (List.range n).filter _ ↔ _
    rw [List.mem_filter, List.mem_range, decide_eq_true_eq]
  have sub : ∀ b ∈ l.map f, b ∈ l := fun b hb => by
    obtain ⟨a, ha, rfl⟩ := List.mem_map.mp hb
    have ha' := (mem a).mp ha
    exact (mem _).mpr ⟨h.lt (hf a ha'.1), hS a _ ha'.1 ha'.2 (hf a ha'.1)⟩
  have nf : (l.map f).Nodup := by
    rw [List.Nodup, List.pairwise_map]
    refine (List.pairwise_iff_getElem.mpr fun i j hi hj hij => ?_)
    intro e'
    have a1 := ((mem _).mp (List.getElem_mem hi)).1
    have a2 := ((mem _).mp (List.getElem_mem hj)).1
    have := inj _ _ _ (hf _ a1) (by rw [e']; exact hf _ a2)
    exact List.pairwise_iff_getElem.mp nl i j hi hj hij this
  have sup := nodup_sup nf sub (by rw [List.length_map]; exact Nat.le_refl _)
  have := sup z ((mem z).mpr ⟨h.lt e, hz⟩)
  obtain ⟨a, ha, ea⟩ := List.mem_map.mp this
  have ha' := (mem a).mp ha
  have : y = a := inj _ _ _ e (by rw [← ea]; exact hf a ha'.1)
  rw [this]
  exact ha'.2
theorem Reach.symm {ms : List (List Nat)} {n x y : Nat} (hm : ∀ m ∈ ms, Mk n m) (hx : x < n) (h : Reach ms x y) : Reach ms y x := by
  induction h with
  | refl => exact .refl
  | @step y z m hxy hm' e ih =>
    have hy := hxy.lt hm hx
    have : Reach ms z y := (hm m hm').back (Reach ms z) (fun a b _ ha e => ha.step hm' e) hy e .refl
    exact this.trans ih

def h_ring_from : S :=
    (sSeq (sSet 2 (eLc (lDisp (aCons (eVar 0) aNil))))
    (sSeq (sSet 3 (eDc [((eVar 0), (eC (.bl true)))]))
    (sSeq (sSet 4 (eC (.int 0)))
    (sSeq (sWhile (e2 oLt (eVar 4) (e1 oLen (eVar 2))) (sSeq (sFor (iLst (eVar 1)) (gN 5) (sSeq (sSet 6 (e2 oIx (eVar 5) (e2 oIx (eVar 2) (eVar 4))))
    (sIf (e2 oDNotIn (eVar 6) (eVar 3)) (sSeq (sPut putD (eVar 3) (eVar 6) (eC (.bl true)))
    (sExpr (m1 isL oAppend (eVar 2) (aCons (eVar 6) aNil)))) sNext)))
    (sAug 4 oAdd (eC (.int 1)))))
    (sRet (eL (lSorted (eVar 2))))))))
theorem own2 {cs : Cs} {a b : Cell} : (cs ++ [a, b])[cs.length]? = some a ∧ (cs ++ [a, b])[cs.length + 1]? = some b := by
  constructor
  · rw [List.getElem?_append_right (Nat.le_refl _), Nat.sub_self]
    rfl
  · rw [List.getElem?_append_right (by omega), Nat.add_sub_cancel_left]
    rfl
theorem own2a {cs : Cs} {a b : Cell} : (cs ++ [a, b])[cs.length]? = some a := own2.1
theorem own2b {cs : Cs} {a b : Cell} : (cs ++ [a, b])[cs.length + 1]? = some b := own2.2
theorem set2a {cs : Cs} {a b c : Cell} : (cs ++ [a, b]).set cs.length c = cs ++ [c, b] := by
  rw [List.set_append_right _ _ (Nat.le_refl _), Nat.sub_self]
  rfl
theorem set2b {cs : Cs} {a b c : Cell} : (cs ++ [a, b]).set (cs.length + 1) c = cs ++ [a, c] := by
  rw [List.set_append_right _ _ (by omega), Nat.add_sub_cancel_left]
  rfl
theorem ring_from_ok {cs : Cs} {ms : List (List Nat)} {n x : Nat} (hm : ∀ m ∈ ms, Mk n m) (hx : x < n) (hn : n < 1000000) :
    got (popped (fn 2 7 h_ring_from) [di x, .lst (ms.map tp)] cs) fun r => ∃ l : List Nat, r = .v (dl l) cs ∧ l.Pairwise (· < ·) ∧ ∀ y, y ∈ l ↔ Reach ms x y := by
  refine got_popped (got_fn rfl ?_)
  simp [h_ring_from, puts, put]
  let F : List Nat → Prop := fun f => f.Nodup ∧ x ∈ f ∧ ∀ y ∈ f, y < n ∧ Reach ms x y
  let Cl : List Nat → Nat → Prop := fun f v => ∀ m ∈ ms, ∀ z, m[v]? = some z → z ∈ f
  have Fl : ∀ f, F f → f.length ≤ n := fun f h => nodup_lt h.1 fun y hy => (h.2.2 y hy).1
  refine got_while (fun k env cs' => ∃ (f : List Nat) (a : Nat) (y5 y6 : Option D), env = [some (di x), some (.lst (ms.map tp)), some (.cell cs.length), some (.cell (cs.length + 1)), some (di a), y5, y6] ∧
      cs' = cs ++ [.lst (dis f), sd f] ∧ F f ∧ a ≤ f.length ∧ (∀ j v, j < a → f[j]? = some v → Cl f v) ∧ k + a = n) n ?_ ⟨[x], 0, none, none, rfl, rfl, ⟨by simp, by simp, fun y hy => ?_⟩, Nat.zero_le _, fun j v h => absurd h (Nat.not_lt_zero _), by omega⟩ ?_
  · unfold FUEL
    omega
  · rw [List.mem_singleton] at hy
    subst hy
    exact ⟨hx, .refl⟩
  · rintro k env cs' ⟨f, a, y5, y6, rfl, rfl, hF, ha, hc, hk⟩
    have hfl := Fl f hF
    simp [own2a, own2b]
    split
    · rename_i hlt
      obtain ⟨v, hv⟩ : ∃ v, f[a]? = some v := ⟨_, List.getElem?_eq_getElem hlt⟩
      refine got_for (fun i env cs' => ∃ (f' : List Nat) (y5 y6 : Option D), env = [some (di x), some (.lst (ms.map tp)), some (.cell cs.length), some (.cell (cs.length + 1)), some (di a), y5, y6] ∧
        cs' = cs ++ [.lst (dis f'), sd f'] ∧ F f' ∧ (∀ j v : Nat, f[j]? = some v → f'[j]? = some v) ∧ ∀ (j : Nat) (m : List Nat) (z : Nat), j < i → ms[j]? = some m → m[v]? = some z → z ∈ f') ⟨f, y5, y6, rfl, rfl, hF, fun _ _ h => h, fun j _ _ h => absurd h (Nat.not_lt_zero _)⟩ (fun _ _ _ _ _ => rfl) (fun i one env cs' hi hI => ?_) fun env cs' hI => ?_
      · obtain ⟨f', y5, y6, rfl, rfl, hF', hfe, hj⟩ := hI
        rw [List.getElem?_map] at hi
        obtain ⟨m, hmi, rfl⟩ := Option.map_eq_some_iff.mp hi
        have hmm : m ∈ ms := List.mem_of_getElem? hmi
        have hv2 := hfe a v hv
        have hvF := hF'.2.2 v (List.mem_of_getElem? hv2)
        obtain ⟨z, hz, hzn⟩ := (hm m hmm).at_ hvF.1
        have q1 : atI (dis f') (a : Int) = some (di v) := atI_nat (by rw [List.getElem?_map, hv2]; rfl)
        have q2 : atI (dis m) (v : Int) = some (di z) := atI_nat (by rw [List.getElem?_map, hz]; rfl)
        have hl := Fl _ hF'
        by_cases hzf : z ∈ f'
        · simp [own2a, own2b, q1, q2, find_none, put_tru, set2a, set2b, hzf]
          refine ⟨f', ⟨rfl, rfl⟩, hF', hfe, fun j m' z' hj' hm' hz' => ?_⟩
          by_cases e' : j = i
          · subst e'
            rw [hmi] at hm'
            cases hm'
            rw [hz] at hz'
            cases hz'
            exact hzf
          · exact hj j m' z' (by omega) hm' hz'
        · simp [own2a, own2b, q1, q2, find_none, put_tru, set2a, set2b, hzf]
          rw [show addN f' z = f' ++ [z] from if_neg hzf]
          refine ⟨by omega, f' ++ [z], by simp, ⟨?_, List.mem_append_left _ hF'.2.1, ?_⟩, fun j v' h => ?_, ?_⟩
          · have := addN_nodup z hF'.1
            rwa [show addN f' z = f' ++ [z] from if_neg hzf] at this
          · intro y hy
            rcases List.mem_append.mp hy with hy | hy
            · exact hF'.2.2 y hy
            · rw [List.mem_singleton] at hy
              subst hy
              exact ⟨hzn, hvF.2.step hmm hz⟩
          · have := hfe j v' h
            rw [List.getElem?_append_left (List.getElem?_eq_some_iff.mp this).1, this]
          · intro j m' z' hj' hm' hz'
            by_cases e : j = i
            · subst e
              rw [hmi] at hm'
              cases hm'
              rw [hz] at hz'
              cases hz'
              simp
            · exact List.mem_append_left _ (hj j m' z' (by omega) hm' hz')
      · obtain ⟨f', y5, y6, rfl, rfl, hF', hfe, hj⟩ := hI
        have hv2 := hfe a v hv
        have ha2 := (List.getElem?_eq_some_iff.mp hv2).1
        simp
        refine ⟨k - 1, by omega, f', a + 1, by simp, ⟨rfl, rfl⟩, hF', by omega, fun j v' hj' hv' => ?_, by omega⟩
        by_cases e : j = a
        · subst e
          rw [hv2] at hv'
          cases hv'
          intro m hmm z hz
          obtain ⟨i, hi⟩ := List.getElem?_of_mem hmm
          refine hj i m z ?_ hi hz
          rw [List.length_map]
          exact (List.getElem?_eq_some_iff.mp hi).1
        · have hja : j < a := by omega
          have : f[j]? = some v' := by
            obtain ⟨w, hw⟩ : ∃ w, f[j]? = some w := ⟨_, List.getElem?_eq_getElem (by omega)⟩
            have := hfe j w hw
            rw [this] at hv'
            rw [hw, hv']
          intro m hmm z hz
          obtain ⟨i, hi⟩ := List.getElem?_of_mem (hc j v' hja this m hmm z hz)
          exact List.mem_of_getElem? (hfe i z hi)
    · rename_i hge
      have hcl : ∀ v ∈ f, Cl f v := fun v hv => by
        obtain ⟨i, hi⟩ := List.getElem?_of_mem hv
        exact hc i v (by have := (List.getElem?_eq_some_iff.mp hi).1; omega) hi
      simp [own2a, sortD_dis (l := f) (by omega)]
      refine ⟨_, _, ⟨rfl, rfl⟩, _, frozen_pure (pures_dis _), srt f, rfl, srt_rise hF.1, fun y => ?_⟩
      rw [(srt_perm f).mem_iff]
      exact ⟨fun h => (hF.2.2 y h).2, fun h => h.in_ (· ∈ f) hF.2.1 fun y z m hy hm' e => hcl y hy m hm' z e⟩

open Classical in
noncomputable def cls (n : Nat) (R : Nat → Nat → Prop) (p : Nat) : List Nat := (List.range n).filter fun q => decide (R p q)
open Classical in
noncomputable def canonTo (n : Nat) (R : Nat → Nat → Prop) (i : Nat) : List (List Nat) := ((List.range i).filter fun p => decide (∀ q, q < p → ¬ R q p)).map (cls n R)
noncomputable abbrev canon (n : Nat) (R : Nat → Nat → Prop) : List (List Nat) := canonTo n R n
open Classical in
theorem cls_mem {n : Nat} {R : Nat → Nat → Prop} {p q : Nat} : q ∈ cls n R p ↔ q < n ∧ R p q := by
  unfold cls
  rw [List.mem_filter, List.mem_range, decide_eq_true_eq]
open Classical in
theorem cls_rise (n : Nat) (R : Nat → Nat → Prop) (p : Nat) : (cls n R p).Pairwise (· < ·) := rise_filter (rise_range n) _
open Classical in
theorem canon_congr {n : Nat} {R R' : Nat → Nat → Prop} (h : ∀ p q, p < n → q < n → (R p q ↔ R' p q)) : canon n R = canon n R' := by
  unfold canon canonTo
  have e : ((List.range n).filter fun p => decide (∀ q, q < p → ¬ R q p)) = (List.range n).filter fun p => decide (∀ q, q < p → ¬ R' q p) := by
    refine List.filter_congr fun p hp => ?_
    have hp' := List.mem_range.mp hp
    refine decide_eq_decide.mpr ⟨fun hh q hq hr => hh q hq ((h q p (by omega) hp').mpr hr), fun hh q hq hr => hh q hq ((h q p (by omega) hp').mp hr)⟩
  rw [e]
  refine List.map_congr_left fun p hp => ?_
  have hp' := List.mem_range.mp (List.mem_filter.mp hp).1
  unfold cls
  refine List.filter_congr fun q hq => ?_
  exact decide_eq_decide.mpr (h p q hp' (List.mem_range.mp hq))
open Classical in
theorem canonTo_succ (n : Nat) (R : Nat → Nat → Prop) (i : Nat) : canonTo n R (i + 1) = canonTo n R i ++ (if (∀ q, q < i → ¬ R q i) then [cls n R i] else []) := by
  unfold canonTo
  rw [List.range_succ, List.filter_append, List.map_append]
  congr 1
  by_cases h : ∀ q, q < i → ¬ R q i
  · rw [if_pos h]
    simp only [List.filter_cons, List.filter_nil]
    rw [if_pos (decide_eq_true h)]
    rfl
  · rw [if_neg h]
    simp only [List.filter_cons, List.filter_nil]
    rw [if_neg (by rw [decide_eq_true_eq]; exact h)]
    rfl
open Classical in
theorem canonTo_len (n : Nat) (R : Nat → Nat → Prop) (i : Nat) : (canonTo n R i).length ≤ i := by
  unfold canonTo
  rw [List.length_map]
  have := List.length_filter_le (fun p => decide (∀ q, q < p → ¬ R q p)) (List.range i)
  rw [List.length_range] at this
  exact this
def h_rings_of : S :=
    (sSeq (sSet 2 (eLc (lDisp aNil)))
    (sSeq (sSet 3 (eDc []))
    (sSeq (sFor (iRange (eVar 0)) (gN 4) (sIf (e2 oDNotIn (eVar 4) (eVar 3)) (sSeq (sSet 5 (call (popped (fn 2 7 h_ring_from)) (aCons (eVar 4) (aCons (eVar 1) aNil))))
    (sSeq (sFor (iLst (eVar 5)) (gN 6) (sPut putD (eVar 3) (eVar 6) (eC (.bl true))))
    (sExpr (m1 isL oAppend (eVar 2) (aCons (eVar 5) aNil))))) sNext))
    (sRet (eVar 2)))))
open Classical in
theorem rings_of_ok {cs : Cs} {ms : List (List Nat)} {n : Nat} (hm : ∀ m ∈ ms, Mk n m) (hn : n < 1000000) :
    got (popped (fn 2 7 h_rings_of) [di n, .lst (ms.map tp)] cs) fun r => r = .v (dll (canon n (Reach ms))) cs := by
  refine got_popped (got_fn rfl ?_)
  simp [h_rings_of, puts]
  refine ⟨by omega, got_for (fun i env cs' => ∃ (l : List Nat) (y4 y5 y6 : Option D), env = [some (di n), some (.lst (ms.map tp)), some (.cell cs.length), some (.cell (cs.length + 1)), y4, y5, y6] ∧
      cs' = cs ++ [.lst ((canonTo n (Reach ms) i).map dl), sd l] ∧ l.Nodup ∧ ∀ y, y ∈ l ↔ ∃ p, p < i ∧ Reach ms p y) ⟨[], none, none, none, rfl, rfl, List.nodup_nil, fun y => by simp⟩ (fun _ _ _ _ _ => rfl) (fun i x env cs' hx hI => ?_) fun env cs' hI => ?_⟩
  · obtain ⟨l, y4, y5, y6, rfl, rfl, hl, hmem⟩ := hI
    obtain ⟨hi, rfl⟩ := rng_at hx
    have lt : ∀ y ∈ l, y < n := fun y hy => by
      obtain ⟨p, hp, hr⟩ := (hmem y).mp hy
      exact hr.lt hm (by omega)
    have ll := nodup_lt hl lt
    by_cases hil : i ∈ l
    · simp [own2b, find_none, hil]
      obtain ⟨p, hp, hr⟩ := (hmem i).mp hil
      refine ⟨l, ⟨?_, rfl, rfl⟩, hl, fun y => (hmem y).trans ⟨fun ⟨q, hq, h⟩ => ⟨q, by omega, h⟩, fun ⟨q, hq, h⟩ => ?_⟩⟩
      · rw [canonTo_succ, if_neg (fun h => h p hp hr), List.append_nil]
      · by_cases e : q = i
        · subst e
          exact ⟨p, hp, hr.trans h⟩
        · exact ⟨q, by omega, h⟩
    · simp [own2b, find_none, hil]
      refine (ring_from_ok hm hi hn).mono fun r hr => ?_
      obtain ⟨g, rfl, hg, hgm⟩ := hr
      have glt : ∀ y ∈ g, y < n := fun y hy => ((hgm y).mp hy).lt hm hi
      have ge : g = cls n (Reach ms) i := rise_eq hg (cls_rise _ _ _) fun y => by
        rw [cls_mem, hgm]
        exact ⟨fun h => ⟨h.lt hm hi, h⟩, fun h => h.2⟩
      simp
      refine got_for (fun j env cs' => ∃ (l' : List Nat) (y6 : Option D), env = [some (di n), some (.lst (ms.map tp)), some (.cell cs.length), some (.cell (cs.length + 1)), some (di i), some (dl g), y6] ∧
        cs' = cs ++ [.lst ((canonTo n (Reach ms) i).map dl), sd l'] ∧ l'.Nodup ∧ ∀ y, y ∈ l' ↔ y ∈ l ∨ y ∈ g.take j) ⟨l, y6, rfl, rfl, hl, fun y => by simp⟩ (fun _ _ _ _ _ => rfl) (fun j x env cs' hx hI => ?_) fun env cs' hI => ?_
      · obtain ⟨l', y6, rfl, rfl, hl', hm'⟩ := hI
        rw [List.getElem?_map] at hx
        obtain ⟨y, hy, rfl⟩ := Option.map_eq_some_iff.mp hx
        have ll' := nodup_lt hl' fun z hz => by
          rcases (hm' z).mp hz with h | h
          · exact lt z h
          · exact glt z (List.mem_of_mem_take h)
        simp [own2b, put_tru, set2b]
        refine ⟨by omega, addN l' y, ⟨rfl, rfl⟩, addN_nodup y hl', fun z => ?_⟩
        rw [addN_mem, hm', List.take_add_one, hy]
        simp [or_assoc]
      · obtain ⟨l', y6, rfl, rfl, hl', hm'⟩ := hI
        rw [List.length_map, List.take_length] at hm'
        have hc := canonTo_len n (Reach ms) i
        simp [own2a, set2a]
        refine ⟨by omega, l', ⟨?_, rfl, rfl⟩, hl', fun y => ?_⟩
        · rw [canonTo_succ, if_pos, List.map_append, ge]
          · rfl
          · intro q hq hr
            exact hil ((hmem i).mpr ⟨q, hq, hr⟩)
        · rw [hm', hmem, hgm]
          constructor
          · rintro (⟨p, hp, h⟩ | h)
            · exact ⟨p, by omega, h⟩
            · exact ⟨i, by omega, h⟩
          · rintro ⟨p, hp, h⟩
            by_cases e : p = i
            · subst e
              exact .inr h
            · exact .inl ⟨p, by omega, h⟩
  · obtain ⟨l, y4, y5, y6, rfl, rfl, hl, hmem⟩ := hI
    rw [rng_len]
    simp
    refine ⟨_, _, ⟨rfl, rfl⟩, frozen_cell (Nat.le_refl _) own2a ?_⟩
    exact D.pures_iff.mpr fun d hd => by
      obtain ⟨g, _, rfl⟩ := List.mem_map.mp hd
      exact pures_dis g
theorem find_at : ∀ {ks : List Nat} {vs : List D} {j y : Nat}, ks.Nodup → ks[j]? = some y → vs.length = ks.length → find (di y) (dis ks) vs = vs[j]?
  | [], _, _, _, _, h, _ => by simp at h
  | k :: ks, [], _, _, _, _, h => by simp at h
  | k :: ks, v :: vs, 0, y, _, h, _ => by
    have : k = y := Option.some.inj h
    show (if di k = di y then some v else find (di y) (dis ks) vs) = _
    rw [if_pos (by rw [this])]
    rfl
  | k :: ks, v :: vs, j + 1, y, hn, h, hl => by
    have hn' := List.nodup_cons.mp hn
    have hy : ks[j]? = some y := h
    show (if di k = di y then some v else find (di y) (dis ks) vs) = _
    rw [if_neg (by rw [di_inj]; exact fun e => hn'.1 (e ▸ List.mem_of_getElem? hy)), find_at hn'.2 hy (by simpa using hl)]
    rfl
theorem find_not : ∀ {ks : List Nat} {vs : List D} {y : Nat}, y ∉ ks → find (di y) (dis ks) vs = none
  | [], [], _, _ => rfl
  | [], _ :: _, _, _ => rfl
  | _ :: _, [], _, _ => rfl
  | k :: ks, v :: vs, y, h => by
    show (if di k = di y then some v else find (di y) (dis ks) vs) = _
    rw [if_neg (by rw [di_inj]; exact fun e => h (e ▸ List.mem_cons_self)), find_not fun hh => h (List.mem_cons_of_mem _ hh)]
theorem put_not {ks : List Nat} {vs : List D} {y : Nat} {v : D} (h : y ∉ ks) : put (di y) v (dis ks) vs = (dis (ks ++ [y]), vs ++ [v]) := by
  unfold put
  rw [if_neg fun e => h (mem_dis.mp e)]
  simp
theorem substs_map {α : Type} (g : Nat → Option D) {f h : α → D} : ∀ {xs : List α}, (∀ x ∈ xs, D.subst g (f x) = some (h x)) → D.substs g (xs.map f) = some (xs.map h)
  | [], _ => rfl
  | x :: xs, H => by
    simp only [List.map_cons, D.substs, H x List.mem_cons_self, substs_map g fun y hy => H y (List.mem_cons_of_mem _ hy), Option.bind_some, Option.map_some]
def h_parts_by : S :=
    (sSeq (sSet 1 (eDc []))
    (sSeq (sFor (iRange (e1 oLen (eVar 0))) (gN 2) (sIf (e2 oDIn (e2 oIx (eVar 0) (eVar 2)) (eVar 1)) (sExpr (m1 isL oAppend (e2 oDGet (eVar 1) (e2 oIx (eVar 0) (eVar 2))) (aCons (eVar 2) aNil))) (sPut putD (eVar 1) (e2 oIx (eVar 0) (eVar 2)) (eLc (lDisp (aCons (eVar 2) aNil))))))
    (sRet (eL (lVals (eVar 1))))))
abbrev sameM (mk : List Nat) (p q : Nat) : Prop := mk[p]? = mk[q]?
abbrev plc (mk : List Nat) (i key : Nat) : List Nat := (List.range i).filter fun p => decide (some key = mk[p]?)
theorem plc_succ {mk : List Nat} {i key y : Nat} (h : mk[i]? = some y) : plc mk (i + 1) key = if key = y then plc mk i key ++ [i] else plc mk i key := by
  unfold plc
  rw [List.range_succ, List.filter_append]
  by_cases e : key = y
  · rw [if_pos e]
    subst e
    simp [h]
  · rw [if_neg e]
    have : ¬ (some key = some y) := fun h => e (Option.some.inj h)
    simp [h, e]
theorem tail_at {cs : Cs} {c : Cell} {l : Cs} (j : Nat) : (cs ++ c :: l)[cs.length + 1 + j]? = l[j]? := by
  rw [List.getElem?_append_right (by omega), show cs.length + 1 + j - cs.length = j + 1 by omega]
  rfl
theorem head_at {cs : Cs} {c : Cell} {l : Cs} : (cs ++ c :: l)[cs.length]? = some c := by
  rw [List.getElem?_append_right (Nat.le_refl _), Nat.sub_self]
  rfl
theorem tail_set {cs : Cs} {c d : Cell} {l : Cs} (j : Nat) : (cs ++ c :: l).set (cs.length + 1 + j) d = cs ++ c :: l.set j d := by
  rw [List.set_append_right _ _ (by omega), show cs.length + 1 + j - cs.length = j + 1 by omega]
  rfl
theorem head_set {cs : Cs} {c d : Cell} {l : Cs} : (cs ++ c :: l).set cs.length d = cs ++ d :: l := by
  rw [List.set_append_right _ _ (Nat.le_refl _), Nat.sub_self]
  rfl
open Classical in
theorem parts_by_ok {cs : Cs} {mk : List Nat} (hn : mk.length < 1000000) :
    got (popped (fn 1 3 h_parts_by) [dl mk] cs) fun r => r = .v (dll (canon mk.length (sameM mk))) cs := by
  refine got_popped (got_fn rfl ?_)
  simp [h_parts_by, puts]
  refine ⟨by omega, got_for (fun i env cs' => ∃ (ks : List Nat) (y2 : Option D), env = [some (dl mk), some (.cell cs.length), y2] ∧
      cs' = cs ++ .dct (dis ks) ((List.range ks.length).map fun j => .cell (cs.length + 1 + j)) :: ks.map (fun key => Cell.lst (dis (plc mk i key))) ∧ ks.Nodup ∧ (∀ y, y ∈ ks ↔ ∃ p, p < i ∧ mk[p]? = some y) ∧
      ks.map some = ((List.range i).filter fun p => decide (∀ q, q < p → ¬ sameM mk q p)).map fun p => mk[p]?) ⟨[], none, rfl, rfl, List.nodup_nil, fun y => by simp, rfl⟩ (fun _ _ _ _ _ => rfl) (fun i x env cs' hx hI => ?_) fun env cs' hI => ?_⟩
  · obtain ⟨ks, y2, rfl, rfl, hk, hmem, hks⟩ := hI
    obtain ⟨hi, rfl⟩ := rng_at hx
    obtain ⟨y, hy⟩ : ∃ y, mk[i]? = some y := ⟨_, List.getElem?_eq_getElem hi⟩
    have q1 : atI (dis mk) (i : Int) = some (di y) := atI_nat (by rw [List.getElem?_map, hy]; rfl)
    have kl : ks.length ≤ i := by
      have := congrArg List.length hks
      rw [List.length_map, List.length_map] at this
      have h2 := List.length_filter_le (fun p => decide (∀ q, q < p → ¬ sameM mk q p)) (List.range i)
      rw [List.length_range] at h2
      omega
    have pl : ∀ key, (plc mk i key).length ≤ i := fun key => by
      have h2 := List.length_filter_le (fun p => decide (some key = mk[p]?)) (List.range i)
      rw [List.length_range] at h2
      exact h2
    have nomem : ∀ z, (∃ p, p < i + 1 ∧ mk[p]? = some z) ↔ z ∈ ks ∨ z = y := fun z => by
      rw [hmem]
      constructor
      · rintro ⟨p, hp, h⟩
        by_cases e : p = i
        · subst e
          rw [hy] at h
          exact .inr (Option.some.inj h).symm
        · exact .inl ⟨p, by omega, h⟩
      · rintro (⟨p, hp, h⟩ | h)
        · exact ⟨p, by omega, h⟩
        · exact ⟨i, by omega, h ▸ hy⟩
    by_cases hyk : y ∈ ks
    · obtain ⟨j, hj⟩ := List.getElem?_of_mem hyk
      have hjl := (List.getElem?_eq_some_iff.mp hj).1
      have fa := find_at (vs := (List.range ks.length).map fun j => D.cell (cs.length + 1 + j)) hk hj (by rw [List.length_map, List.length_range])
      rw [List.getElem?_map, List.getElem?_range hjl] at fa
      have fa2 : find (di y) (dis ks) ((List.range ks.length).map fun j => D.cell (cs.length + 1 + j)) = some (.cell (cs.length + 1 + j)) := fa
      simp [q1, head_at, tail_at, fa2, hj, tail_set]
      have := pl y
      refine ⟨by omega, ks, ⟨⟨rfl, rfl⟩, ?_⟩, hk, fun z => ?_, ?_⟩
      · refine List.ext_getElem? fun a => ?_
        rw [List.getElem?_set]
        split
        · rename_i e
          subst e
          rw [if_pos (by rw [List.length_map]; exact hjl), List.getElem?_map, hj]
          show _ = some (Cell.lst (dis (plc mk (i + 1) y)))
          rw [plc_succ hy, if_pos rfl]
          simp
        · rename_i e
          rw [List.getElem?_map, List.getElem?_map]
          cases ha : ks[a]? with
          | none => rfl
          | some w =>
            have : w ≠ y := fun h => by
              subst h
              exact e ((List.getElem?_inj hjl hk).mp (hj.trans ha.symm))
            show some (Cell.lst (dis (plc mk i w))) = some (Cell.lst (dis (plc mk (i + 1) w)))
            rw [plc_succ hy, if_neg this]
      · rw [nomem]
        exact ⟨.inl, fun h => h.elim id fun e => e ▸ hyk⟩
      · rw [hks, List.range_succ, List.filter_append, List.map_append]
        obtain ⟨p, hp, hpy⟩ := (hmem y).mp hyk
        have : ¬ (∀ q, q < i → ¬ sameM mk q i) := fun h => h p hp (by rw [sameM, hpy, hy])
        simp only [List.filter_cons, List.filter_nil]
        rw [if_neg (by rw [decide_eq_true_eq]; exact this)]
        simp
    · have fn := find_not (vs := (List.range ks.length).map fun j => D.cell (cs.length + 1 + j)) hyk
      have kp := put_not (vs := (List.range ks.length).map fun j => D.cell (cs.length + 1 + j)) (v := .cell (cs.length + 1 + ks.length)) hyk
      have no : ∀ q, q < i → ¬ sameM mk q i := fun q hq h => hyk ((hmem y).mpr ⟨q, hq, h.trans hy⟩)
      simp [q1, head_at, head_set, fn, show cs.length + (ks.length + 1) = cs.length + 1 + ks.length by omega, kp]
      refine ⟨by omega, ks ++ [y], ?_, ?_, fun z => ?_, ?_⟩
      · refine ⟨⟨by simp, by simp [List.range_succ]⟩, ?_⟩
        rw [List.map_append]
        congr 1
        · refine List.map_congr_left fun w hw => ?_
          rw [plc_succ hy, if_neg fun e : w = y => hyk (e ▸ hw)]
        · show _ = [Cell.lst (dis (plc mk (i + 1) y))]
          have : plc mk i y = [] := List.filter_eq_nil_iff.mpr fun p hp h => hyk ((hmem y).mpr ⟨p, List.mem_range.mp hp, (of_decide_eq_true h).symm⟩)
          rw [plc_succ hy, if_pos rfl, this]
          rfl
      · rw [List.nodup_append]
        refine ⟨hk, by simp, fun a ha b hb => ?_⟩
        rw [List.mem_singleton] at hb
        subst hb
        exact fun e => hyk (e ▸ ha)
      · rw [nomem]
        simp
      · rw [List.map_append, hks, List.range_succ, List.filter_append, List.map_append]
        simp only [List.filter_cons, List.filter_nil]
        rw [if_pos (by rw [decide_eq_true_eq]; exact no)]
        simp [hy]
  · obtain ⟨ks, y2, rfl, rfl, hk, hmem, hks⟩ := hI
    rw [rng_len] at *
    simp [head_at]
    refine ⟨_, _, ⟨rfl, rfl⟩, ?_⟩
    have e1 : canon mk.length (sameM mk) = ks.map (plc mk mk.length) := by
      have h2 : (ks.map some).map (fun o => (List.range mk.length).filter fun q => decide (o = mk[q]?)) = ks.map (plc mk mk.length) := by
        rw [List.map_map]
        rfl
      rw [← h2, hks, List.map_map]
      have h3 : canon mk.length (sameM mk) = ((List.range mk.length).filter fun p => decide (∀ q, q < p → ¬ sameM mk q p)).map (cls mk.length (sameM mk)) := by
        unfold canon canonTo
        congr 1
        exact List.filter_congr fun p _ => decide_eq_decide.mpr Iff.rfl
      rw [h3]
      refine List.map_congr_left fun p _ => ?_
      unfold cls
      refine List.filter_congr fun q _ => ?_
      exact decide_eq_decide.mpr Iff.rfl
    rw [e1]
    unfold frozen DEEP
    rw [show D.subst (look cs.length (cs ++ .dct (dis ks) ((List.range ks.length).map fun j => .cell (cs.length + 1 + j)) :: ks.map (fun key => Cell.lst (dis (plc mk mk.length key)))) 8) (.lst ((List.range ks.length).map fun j => .cell (cs.length + 1 + j))) = _ from
      congrArg (Option.map D.lst) (substs_map _ (h := fun j => dl (plc mk mk.length (ks.getD j 0))) fun j hj => ?_)]
    · rw [Option.map_some]
      congr 2
      refine List.ext_getElem? fun a => ?_
      rw [List.getElem?_map, List.getElem?_map, List.getElem?_map]
      by_cases ha : a < ks.length
      · rw [List.getElem?_range ha, List.getElem?_eq_getElem ha]
        show some (dl (plc mk mk.length (ks.getD a 0))) = some (dl (plc mk mk.length ks[a]))
        rw [List.getD_eq_getElem?_getD, List.getElem?_eq_getElem ha]
        rfl
      · rw [List.getElem?_eq_none (by rw [List.length_range]; omega), List.getElem?_eq_none (by omega)]
        rfl
    · have hj' := List.mem_range.mp hj
      show look _ _ (7 + 1) _ = _
      refine look_cell (by omega) ?_ (pures_dis _)
      rw [tail_at, List.getElem?_map, List.getElem?_eq_getElem hj', List.getD_eq_getElem?_getD, List.getElem?_eq_getElem hj']
      rfl
end Mi
end
section
set_option Elab.async false
set_option linter.all false
set_option maxRecDepth 100000
namespace tb
open PySem Mi
def b_ring_from : S :=
    (sSeq (sSet 2 (eLc (lDisp (aCons (eVar 0) aNil))))
    (sSeq (sSet 3 (eDc [((eVar 0), (eC (.bl true)))]))
    (sSeq (sSet 4 (eC (.int 0)))
    (sSeq (sWhile (e2 oLt (eVar 4) (e1 oLen (eVar 2))) (sSeq (sFor (iLst (eVar 1)) (gN 5) (sSeq (sSet 6 (e2 oIx (eVar 5) (e2 oIx (eVar 2) (eVar 4))))
    (sIf (e2 oDNotIn (eVar 6) (eVar 3)) (sSeq (sPut putD (eVar 3) (eVar 6) (eC (.bl true)))
    (sExpr (m1 isL oAppend (eVar 2) (aCons (eVar 6) aNil)))) sNext)))
    (sAug 4 oAdd (eC (.int 1)))))
    (sRet (eL (lSorted (eVar 2))))))))
def f_ring_from : Fn := fn 2 7 b_ring_from
def b_rings_of : S :=
    (sSeq (sSet 2 (eLc (lDisp aNil)))
    (sSeq (sSet 3 (eDc []))
    (sSeq (sFor (iRange (eVar 0)) (gN 4) (sIf (e2 oDNotIn (eVar 4) (eVar 3)) (sSeq (sSet 5 (call (popped f_ring_from) (aCons (eVar 4) (aCons (eVar 1) aNil))))
    (sSeq (sFor (iLst (eVar 5)) (gN 6) (sPut putD (eVar 3) (eVar 6) (eC (.bl true))))
    (sExpr (m1 isL oAppend (eVar 2) (aCons (eVar 5) aNil))))) sNext))
    (sRet (eVar 2)))))
def f_rings_of : Fn := fn 2 7 b_rings_of
def b_parts_by : S :=
    (sSeq (sSet 1 (eDc []))
    (sSeq (sFor (iRange (e1 oLen (eVar 0))) (gN 2) (sIf (e2 oDIn (e2 oIx (eVar 0) (eVar 2)) (eVar 1)) (sExpr (m1 isL oAppend (e2 oDGet (eVar 1) (e2 oIx (eVar 0) (eVar 2))) (aCons (eVar 2) aNil))) (sPut putD (eVar 1) (e2 oIx (eVar 0) (eVar 2)) (eLc (lDisp (aCons (eVar 2) aNil))))))
    (sRet (eL (lVals (eVar 1))))))
def f_parts_by : Fn := fn 1 3 b_parts_by
def b_finest : S :=
    (sSeq (sSet 3 (eL (lRange (eVar 0))))
    (sSeq (sSet 4 (eLc (lList (eVar 2))))
    (sSeq (sSet 5 (eC (.int 0)))
    (sSeq (sWhile (e2 oLt (eVar 5) (e1 oLen (eVar 4))) (sSeq (sAsg (gT [(gN 6), (gN 7)]) (e2 oIx (eVar 4) (eVar 5)))
    (sSeq (sAug 5 oAdd (eC (.int 1)))
    (sSeq (sSet 8 (e2 oIx (eVar 3) (eVar 6)))
    (sSeq (sSet 9 (e2 oIx (eVar 3) (eVar 7)))
    (sIf (e2 oNeS (eVar 8) (eVar 9)) (sSeq (sSet 3 (eL (lComp [10] (iLst (eVar 3)) (gN 10) eYes (eIf (e2 oEqS (eVar 10) (eVar 9)) (eVar 8) (eVar 10)))))
    (sExpr (m1 isL oExtend (eVar 4) (aCons (eL (lComp [11] (iLst (eVar 1)) (gN 11) eYes (eTup (aCons (e2 oIx (eVar 11) (eVar 6)) (aCons (e2 oIx (eVar 11) (eVar 7)) aNil))))) aNil)))) sNext))))))
    (sRet (call (popped f_parts_by) (aCons (eVar 3) aNil)))))))
def f_finest : Fn := fn 3 12 b_finest
def b_is_whole : S :=
    (sRet (eAnd (e1 (oIsa .int) (eVar 0)) (e1 oNot (e1 (oIsa .bool) (eVar 0)))))
def f_is_whole : Fn := fn 1 1 b_is_whole
def b_is_turning : S :=
    (sSeq (sIf (eOr (e1 oNot (e1 (oIsa .tuple) (eVar 0))) (eOr (e2 oLt (e1 oLen (eVar 0)) (eC (.int 1))) (e2 oGt (e1 oLen (eVar 0)) (eC (.int 60))))) (sRet (eC (.bl false))) sNext)
    (sSeq (sSet 1 (eLc (lMul (eL (lDisp (aCons (eC (.bl false)) aNil))) (e1 oLen (eVar 0)))))
    (sSeq (sFor (iTup (eVar 0)) (gN 2) (sSeq (sIf (eOr (e1 oNot (call (popped f_is_whole) (aCons (eVar 2) aNil))) (eOr (e2 oLt (eVar 2) (eC (.int 0))) (e2 oGe (eVar 2) (e1 oLen (eVar 0))))) (sRet (eC (.bl false))) sNext)
    (sSeq (sIf (e2 oIx (eVar 1) (eVar 2)) (sRet (eC (.bl false))) sNext)
    (sPut putL (eVar 1) (eVar 2) (eC (.bl true))))))
    (sRet (eC (.bl true))))))
def f_is_turning : Fn := fn 1 3 b_is_turning
def b_still : S :=
    (sRet (e1 oTupRange (eVar 0)))
def f_still : Fn := fn 1 1 b_still
def b_behind : S :=
    (sRet (e1 oTuple (eL (lComp [2] (iTup (eVar 0)) (gN 2) eYes (e2 oIx (eVar 1) (eVar 2))))))
def f_behind : Fn := fn 2 3 b_behind
def b_back : S :=
    (sSeq (sSet 1 (eLc (lMul (eL (lDisp (aCons (eC (.int 0)) aNil))) (e1 oLen (eVar 0)))))
    (sSeq (sFor (iEnumT (eVar 0)) (gT [(gN 2), (gN 3)]) (sPut putL (eVar 1) (eVar 3) (eVar 2)))
    (sRet (e1 oTuple (eVar 1)))))
def f_back : Fn := fn 1 4 b_back
def b_Step___init__ : S :=
    (sSeq (sPutO 0 0 (eVar 0) (eVar 1))
    (sSeq (sPutO 0 1 (eVar 0) (eDc [((eVar 1), (eTup (aCons (call (popped f_still) (aCons (eVar 2) aNil)) (aCons (eC (.int 0)) aNil))))]))
    (sPutO 0 2 (eVar 0) (eLc (lDisp aNil)))))
def f_Step___init__ : Fn := fn 3 3 b_Step___init__
def b_Chain___init__ : S :=
    (sSeq (sPutO 1 0 (eVar 0) (eVar 1))
    (sSeq (sPutO 1 1 (eVar 0) (eLc (lDisp (aCons (eTup (aCons (eC (.str "still")) aNil)) aNil))))
    (sPutO 1 2 (eVar 0) (eL (lComp [2] (iRange (eVar 1)) (gN 2) eYes (call (make' 0 f_Step___init__) (aCons (eVar 2) (aCons (eVar 1) aNil))))))))
def f_Chain___init__ : Fn := fn 2 3 b_Chain___init__
def b_Chain_noted : S :=
    (sSeq (sExpr (m1 isL oAppend (e1 (oFld 1 1) (eVar 0)) (aCons (eVar 1) aNil)))
    (sRet (e2 oSub (e1 oLen (e1 (oFld 1 1) (eVar 0))) (eC (.int 1)))))
def f_Chain_noted : Fn := fn 2 2 b_Chain_noted
def b_Chain_line_of : S :=
    (sSeq (sIf (e2 oEqS (e1 oLen (eVar 1)) (eC (.int 1))) (sRet (e2 oIx (eVar 1) (eC (.int 0)))) sNext)
    (sSeq (sSet 2 (meth 1 (popped f_Chain_noted) (eVar 0) (aCons (eTup (aCons (eC (.str "behind")) (aCons (e2 oIx (eVar 1) (eC (.int 0))) (aCons (e2 oIx (eVar 1) (eC (.int 1))) aNil)))) aNil)))
    (sSeq (sSet 3 (meth 1 (popped f_Chain_noted) (eVar 0) (aCons (eTup (aCons (eC (.str "back")) (aCons (e2 oIx (eVar 1) (eC (.int 2))) aNil))) aNil)))
    (sRet (meth 1 (popped f_Chain_noted) (eVar 0) (aCons (eTup (aCons (eC (.str "behind")) (aCons (eVar 2) (aCons (eVar 3) aNil)))) aNil))))))
def f_Chain_line_of : Fn := fn 2 4 b_Chain_line_of
def b_Chain_rest : S :=
    (sSeq (sFor (iLst (eL (lCut (e1 (oFld 1 2) (eVar 0)) (some (eVar 2)) none))) (gN 3) (sSeq (sSet 4 (e2 oIx (eVar 1) (e1 (oFld 0 0) (eVar 3))))
    (sSeq (sIf (e2 oDNotIn (eVar 4) (e1 (oFld 0 1) (eVar 3))) (sRet (eTup (aCons (e1 (oFld 0 0) (eVar 3)) (aCons (eVar 1) aNil)))) sNext)
    (sIf (e2 oNeS (eVar 4) (e1 (oFld 0 0) (eVar 3))) (sSet 1 (call (popped f_behind) (aCons (eVar 1) (aCons (call (popped f_back) (aCons (e2 oIx (e2 oDGet (e1 (oFld 0 1) (eVar 3)) (eVar 4)) (eC (.int 0))) aNil)) aNil)))) sNext))))
    (sRet (eTup (aCons (e1 (oFld 1 0) (eVar 0)) (aCons (eVar 1) aNil)))))
def f_Chain_rest : Fn := fn 3 5 b_Chain_rest
def b_Chain_has : S :=
    (sRet (e2 oEqS (e2 oIx (meth 1 (popped f_Chain_rest) (eVar 0) (aCons (eVar 1) (aCons (eC (.int 0)) aNil))) (eC (.int 0))) (e1 (oFld 1 0) (eVar 0))))
def f_Chain_has : Fn := fn 2 2 b_Chain_has
def b_Chain_size : S :=
    (sSeq (sSet 1 (eC (.int 1)))
    (sSeq (sFor (iLst (e1 (oFld 1 2) (eVar 0))) (gN 2) (sAug 1 oMul (e1 oLenU (e1 (oFld 0 1) (eVar 2)))))
    (sRet (eVar 1))))
def f_Chain_size : Fn := fn 1 3 b_Chain_size
def b_Chain_least : S :=
    (sSeq (sFor (iLst (eL (lCut (e1 (oFld 1 2) (eVar 0)) (some (eVar 2)) none))) (gN 3) (sSeq (sSet 4 (e1 (oFld 0 0) (eVar 3)))
    (sSeq (sLock (e1 (oFld 0 1) (eVar 3)) (sFor (iLck (e1 (oFld 0 1) (eVar 3))) (gN 5) (sIf (e2 oLt (e2 oIx (eVar 1) (eVar 5)) (e2 oIx (eVar 1) (eVar 4))) (sSet 4 (eVar 5)) sNext)))
    (sIf (e2 oNeS (eVar 4) (e1 (oFld 0 0) (eVar 3))) (sSet 1 (call (popped f_behind) (aCons (e2 oIx (e2 oDGet (e1 (oFld 0 1) (eVar 3)) (eVar 4)) (eC (.int 0))) (aCons (eVar 1) aNil)))) sNext))))
    (sRet (eVar 1)))
def f_Chain_least : Fn := fn 3 6 b_Chain_least
def b_Chain_grown : S :=
    (sSeq (sExpr (m1 isL oAppend (e1 (oFld 0 2) (eVar 1)) (aCons (eTup (aCons (eVar 2) (aCons (eVar 3) aNil))) aNil)))
    (sSeq (sLock (e1 (oFld 0 1) (eVar 1)) (sSet 4 (eLc (lComp [5] (iLck (e1 (oFld 0 1) (eVar 1))) (gN 5) eYes (eTup (aCons (eVar 5) (aCons (e2 oSub (e1 oLen (e1 (oFld 0 2) (eVar 1))) (eC (.int 1))) aNil)))))))
    (sSeq (sSet 6 (eLc (lDisp aNil)))
    (sSeq (sSet 7 (eC (.int 0)))
    (sSeq (sWhile (e2 oLt (eVar 7) (e1 oLen (eVar 4))) (sSeq (sAsg (gT [(gN 5), (gN 8)]) (e2 oIx (eVar 4) (eVar 7)))
    (sSeq (sAug 7 oAdd (eC (.int 1)))
    (sSeq (sAsg (gT [(gN 9), (gN 10)]) (e2 oDGet (e1 (oFld 0 1) (eVar 1)) (eVar 5)))
    (sSeq (sAsg (gT [(gN 11), (gN 12)]) (e2 oIx (e1 (oFld 0 2) (eVar 1)) (eVar 8)))
    (sSeq (sSet 13 (call (popped f_behind) (aCons (eVar 9) (aCons (eVar 11) aNil))))
    (sSeq (sSet 14 (e2 oIx (eVar 11) (eVar 5)))
    (sIf (e2 oDNotIn (eVar 14) (e1 (oFld 0 1) (eVar 1))) (sSeq (sPut putD (e1 (oFld 0 1) (eVar 1)) (eVar 14) (eTup (aCons (eVar 13) (aCons (meth 1 (popped f_Chain_noted) (eVar 0) (aCons (eTup (aCons (eC (.str "behind")) (aCons (eVar 10) (aCons (eVar 12) aNil)))) aNil)) aNil))))
    (sExpr (m1 isL oExtend (eVar 4) (aCons (eL (lComp [15] (iRange (e1 oLen (e1 (oFld 0 2) (eVar 1)))) (gN 15) eYes (eTup (aCons (eVar 14) (aCons (eVar 15) aNil))))) aNil)))) (sIf (e2 oNe (eVar 13) (e2 oIx (e2 oDGet (e1 (oFld 0 1) (eVar 1)) (eVar 14)) (eC (.int 0)))) (sSeq (sAsg (gT [(gN 16), (gN 17)]) (e2 oDGet (e1 (oFld 0 1) (eVar 1)) (eVar 14)))
    (sExpr (m1 isL oAppend (eVar 6) (aCons (eTup (aCons (e2 oAdd (e1 (oFld 0 0) (eVar 1)) (eC (.int 1))) (aCons (call (popped f_behind) (aCons (eVar 13) (aCons (call (popped f_back) (aCons (eVar 16) aNil)) aNil))) (aCons (eTup (aCons (eVar 10) (aCons (eVar 12) (aCons (eVar 17) aNil)))) aNil)))) aNil)))) sNext)))))))))
    (sRet (eVar 6)))))))
def f_Chain_grown : Fn := fn 4 18 b_Chain_grown
def b_Chain_add : S :=
    (sSeq (sSet 3 (eLc (lDisp (aCons (eTup (aCons (eC (.int 0)) (aCons (eVar 1) (aCons (eTup (aCons (eVar 2) aNil)) aNil)))) aNil))))
    (sWhile (e2 oGt (e1 oLen (eVar 3)) (eC (.int 0))) (sSeq (sAsg (gT [(gN 4), (gN 5), (gN 6)]) (m1 isL oPop (eVar 3) aNil))
    (sIf (e2 oLt (e2 oIx (meth 1 (popped f_Chain_rest) (eVar 0) (aCons (eVar 5) (aCons (eVar 4) aNil))) (eC (.int 0))) (e1 (oFld 1 0) (eVar 0))) (sExpr (m1 isL oExtend (eVar 3) (aCons (meth 1 (popped f_Chain_grown) (eVar 0) (aCons (e2 oIx (e1 (oFld 1 2) (eVar 0)) (eVar 4)) (aCons (eVar 5) (aCons (meth 1 (popped f_Chain_line_of) (eVar 0) (aCons (eVar 6) aNil)) aNil)))) aNil))) sNext))))
def f_Chain_add : Fn := fn 3 7 b_Chain_add
def b_lines_named : S :=
    (sSeq (sIf (eOr (e2 oEq (e2 oIx (eVar 0) (eC (.int 0))) (eC (.str "behind"))) (e2 oEq (e2 oIx (eVar 0) (eC (.int 0))) (eC (.str "back")))) (sRet (eCutT (eVar 0) (some (eC (.int 1))) none)) sNext)
    (sRet (eTup aNil)))
def f_lines_named : Fn := fn 1 1 b_lines_named
def b_trimmed : S :=
    (sSeq (sSet 1 (eDc [((e2 oSub (e1 oLen (eVar 0)) (eC (.int 1))), (eC (.bl true)))]))
    (sSeq (sFor (iRange (e1 oLen (eVar 0))) (gN 2) (sSeq (sSet 3 (e2 oSub (e2 oSub (e1 oLen (eVar 0)) (eC (.int 1))) (eVar 2)))
    (sIf (e2 oDIn (eVar 3) (eVar 1)) (sFor (iTup (call (popped f_lines_named) (aCons (e2 oIx (eVar 0) (eVar 3)) aNil))) (gN 4) (sPut putD (eVar 1) (eVar 4) (eC (.bl true)))) sNext)))
    (sSeq (sSet 5 (eDc []))
    (sSeq (sSet 6 (eLc (lDisp aNil)))
    (sSeq (sFor (iRange (e1 oLen (eVar 0))) (gN 3) (sIf (e2 oDIn (eVar 3) (eVar 1)) (sSeq (sSet 7 (e2 oIx (eVar 0) (eVar 3)))
    (sSeq (sIf (e2 oGt (e1 oLen (call (popped f_lines_named) (aCons (eVar 7) aNil))) (eC (.int 0))) (sSet 7 (e1 oTuple (eL (lAdd (eL (lDisp (aCons (e2 oIx (eVar 7) (eC (.int 0))) aNil))) (eL (lComp [4] (iTup (eCutT (eVar 7) (some (eC (.int 1))) none)) (gN 4) eYes (e2 oDGet (eVar 5) (eVar 4)))))))) sNext)
    (sSeq (sPut putD (eVar 5) (eVar 3) (e1 oLen (eVar 6)))
    (sExpr (m1 isL oAppend (eVar 6) (aCons (eVar 7) aNil)))))) sNext))
    (sRet (eVar 6)))))))
def f_trimmed : Fn := fn 1 8 b_trimmed
def b_is_of : S :=
    (sRet (eAnd (call (popped f_is_turning) (aCons (eVar 0) aNil)) (e2 oEqS (e1 oLen (eVar 0)) (eVar 1))))
def f_is_of : Fn := fn 2 2 b_is_of
def b_looked_makers : S :=
    (sSeq (sIf (eOr (e1 oNot (call (popped f_is_whole) (aCons (eVar 0) aNil))) (e1 oNot (eChain oLe oLe (eC (.int 1)) (eVar 0) (eC (.int 60))))) (sRaise 4) sNext)
    (sSeq (sIf (eOr (e1 oNot (e1 (oIsa .list) (eVar 1))) (e2 oGt (e1 oLen (eVar 1)) (eC (.int 200)))) (sRaise 4) sNext)
    (sSeq (sFor (iLst (eVar 1)) (gN 2) (sIf (e1 oNot (call (popped f_is_of) (aCons (eVar 2) (aCons (eVar 0) aNil)))) (sRaise 4) sNext))
    (sRet (eL (lList (eVar 1)))))))
def f_looked_makers : Fn := fn 2 3 b_looked_makers
def b_lean : S :=
    (sSeq (sSet 2 (call (make' 1 f_Chain___init__) (aCons (eVar 0) aNil)))
    (sSeq (sSet 3 (eLc (lDisp aNil)))
    (sSeq (sFor (iLst (eVar 1)) (gN 4) (sIf (e1 oNot (meth 1 (popped f_Chain_has) (eVar 2) (aCons (eVar 4) aNil))) (sSeq (sExpr (m1 isL oAppend (eVar 3) (aCons (eVar 4) aNil)))
    (sExpr (meth 1 (popped f_Chain_add) (eVar 2) (aCons (eVar 4) (aCons (eC (.int 0)) aNil))))) sNext))
    (sRet (eVar 3)))))
def f_lean : Fn := fn 2 5 b_lean
def b_Group___init__ : S :=
    (sSeq (sPutO 7 0 (eVar 0) (call (popped f_looked_makers) (aCons (eVar 1) (aCons (eVar 2) aNil))))
    (sSeq (sPutO 7 1 (eVar 0) (eVar 1))
    (sSeq (sPutO 7 2 (eVar 0) (call (make' 1 f_Chain___init__) (aCons (eVar 1) aNil)))
    (sSeq (sFor (iRange (e1 oLen (e1 (oFld 7 0) (eVar 0)))) (gN 3) (sExpr (meth 1 (popped f_Chain_add) (e1 (oFld 7 2) (eVar 0)) (aCons (e2 oIx (e1 (oFld 7 0) (eVar 0)) (eVar 3)) (aCons (meth 1 (popped f_Chain_noted) (e1 (oFld 7 2) (eVar 0)) (aCons (eTup (aCons (eC (.str "told")) (aCons (eVar 3) aNil))) aNil)) aNil)))))
    (sPutO 7 3 (eVar 0) (eL (lComp [4] (iLst (e1 (oFld 1 2) (e1 (oFld 7 2) (eVar 0)))) (gN 4) (e2 oGt (e1 oLenU (e1 (oFld 0 1) (eVar 4))) (eC (.int 1))) (eVar 4))))))))
def f_Group___init__ : Fn := fn 3 5 b_Group___init__
def b_Group_told : S :=
    (sRet (eL (lList (e1 (oFld 7 0) (eVar 0)))))
def f_Group_told : Fn := fn 1 1 b_Group_told
def b_Group_size : S :=
    (sRet (meth 1 (popped f_Chain_size) (e1 (oFld 7 2) (eVar 0)) aNil))
def f_Group_size : Fn := fn 1 1 b_Group_size
def b_Group_has : S :=
    (sRet (eAnd (call (popped f_is_of) (aCons (eVar 1) (aCons (e1 (oFld 7 1) (eVar 0)) aNil))) (meth 1 (popped f_Chain_has) (e1 (oFld 7 2) (eVar 0)) (aCons (eVar 1) aNil))))
def f_Group_has : Fn := fn 2 2 b_Group_has
def b_Group_base : S :=
    (sRet (eL (lComp [1] (iLst (e1 (oFld 7 3) (eVar 0))) (gN 1) eYes (e1 (oFld 0 0) (eVar 1)))))
def f_Group_base : Fn := fn 1 2 b_Group_base
def b_Group_ring_at : S :=
    (sRet (eL (lSortK (e1 (oFld 0 1) (e2 oIx (e1 (oFld 1 2) (e1 (oFld 7 2) (eVar 0))) (eVar 1))))))
def f_Group_ring_at : Fn := fn 2 2 b_Group_ring_at
def b_Group_lift : S :=
    (sSeq (sSet 3 (e1 (oFld 0 1) (e2 oIx (e1 (oFld 1 2) (e1 (oFld 7 2) (eVar 0))) (eVar 1))))
    (sSeq (sIf (e2 oDNotIn (eVar 2) (eVar 3)) (sRaise 6) sNext)
    (sRet (meth 1 (popped f_Chain_least) (e1 (oFld 7 2) (eVar 0)) (aCons (e2 oIx (e2 oDGet (eVar 3) (eVar 2)) (eC (.int 0))) (aCons (e2 oAdd (eVar 1) (eC (.int 1))) aNil))))))
def f_Group_lift : Fn := fn 3 4 b_Group_lift
def b_Group_ground : S :=
    (sRet (eL (lComp [2] (iLst (meth 7 (popped f_Group_base) (eVar 0) aNil)) (gN 2) eYes (eTup (aCons (eVar 2) (aCons (eL (lComp [1] (iLst (meth 7 (popped f_Group_ring_at) (eVar 0) (aCons (eVar 2) aNil))) (gN 1) eYes (meth 7 (popped f_Group_lift) (eVar 0) (aCons (eVar 2) (aCons (eVar 1) aNil))))) aNil))))))
def f_Group_ground : Fn := fn 1 3 b_Group_ground
def b_Group_least : S :=
    (sSeq (sIf (e1 oNot (call (popped f_is_of) (aCons (eVar 1) (aCons (e1 (oFld 7 1) (eVar 0)) aNil)))) (sRaise 3) sNext)
    (sRet (meth 1 (popped f_Chain_least) (e1 (oFld 7 2) (eVar 0)) (aCons (eVar 1) (aCons (eC (.int 0)) aNil)))))
def f_Group_least : Fn := fn 2 2 b_Group_least
def b_Group_nth : S :=
    (sSeq (sIf (eOr (e1 oNot (call (popped f_is_whole) (aCons (eVar 1) aNil))) (e1 oNot (eChain oLe oLt (eC (.int 0)) (eVar 1) (meth 7 (popped f_Group_size) (eVar 0) aNil)))) (sRaise 5) sNext)
    (sSeq (sSet 2 (meth 7 (popped f_Group_size) (eVar 0) aNil))
    (sSeq (sSet 3 (call (popped f_still) (aCons (e1 (oFld 7 1) (eVar 0)) aNil)))
    (sSeq (sFor (iLst (e1 (oFld 7 3) (eVar 0))) (gN 4) (sSeq (sSet 2 (e2 oDiv (eVar 2) (e1 oLenU (e1 (oFld 0 1) (eVar 4)))))
    (sSeq (sAsg (gT [(gN 5), (gN 1)]) (e2 oDivmod (eVar 1) (eVar 2)))
    (sSeq (sSet 6 (eL (lSorted (eL (lLock (e1 (oFld 0 1) (eVar 4)) (lComp [7] (iLck (e1 (oFld 0 1) (eVar 4))) (gN 7) eYes (eTup (aCons (e2 oIx (eVar 3) (eVar 7)) (aCons (eVar 7) aNil)))))))))
    (sSeq (sSet 8 (e2 oIx (e2 oIx (eVar 6) (eVar 5)) (eC (.int 1))))
    (sIf (e2 oNeS (eVar 8) (e1 (oFld 0 0) (eVar 4))) (sSet 3 (call (popped f_behind) (aCons (e2 oIx (e2 oDGet (e1 (oFld 0 1) (eVar 4)) (eVar 8)) (eC (.int 0))) (aCons (eVar 3) aNil)))) sNext))))))
    (sRet (eVar 3))))))
def f_Group_nth : Fn := fn 2 9 b_Group_nth
def b_Group_place_of : S :=
    (sSeq (sIf (e1 oNot (meth 7 (popped f_Group_has) (eVar 0) (aCons (eVar 1) aNil))) (sRaise 6) sNext)
    (sSeq (sSet 2 (meth 7 (popped f_Group_size) (eVar 0) aNil))
    (sSeq (sSet 3 (call (popped f_still) (aCons (e1 (oFld 7 1) (eVar 0)) aNil)))
    (sSeq (sSet 4 (eC (.int 0)))
    (sSeq (sFor (iLst (e1 (oFld 7 3) (eVar 0))) (gN 5) (sSeq (sSet 2 (e2 oDiv (eVar 2) (e1 oLenU (e1 (oFld 0 1) (eVar 5)))))
    (sSeq (sSet 6 (e2 oIx (eVar 1) (e1 (oFld 0 0) (eVar 5))))
    (sSeq (sSet 7 (e1 (oFld 0 0) (eVar 5)))
    (sSeq (sLock (e1 (oFld 0 1) (eVar 5)) (sFor (iLck (e1 (oFld 0 1) (eVar 5))) (gN 8) (sSeq (sIf (e2 oLt (e2 oIx (eVar 3) (eVar 8)) (eVar 6)) (sAug 4 oAdd (eVar 2)) sNext)
    (sIf (e2 oEqS (e2 oIx (eVar 3) (eVar 8)) (eVar 6)) (sSet 7 (eVar 8)) sNext))))
    (sIf (e2 oNeS (eVar 7) (e1 (oFld 0 0) (eVar 5))) (sSet 3 (call (popped f_behind) (aCons (e2 oIx (e2 oDGet (e1 (oFld 0 1) (eVar 5)) (eVar 7)) (eC (.int 0))) (aCons (eVar 3) aNil)))) sNext))))))
    (sRet (eVar 4)))))))
def f_Group_place_of : Fn := fn 2 9 b_Group_place_of
def b_Group_recipe : S :=
    (sSeq (sIf (e1 oNot (meth 7 (popped f_Group_has) (eVar 0) (aCons (eVar 1) aNil))) (sRaise 6) sNext)
    (sSeq (sSet 2 (eLc (lDisp aNil)))
    (sSeq (sFor (iLst (e1 (oFld 7 3) (eVar 0))) (gN 3) (sSeq (sSet 4 (e2 oIx (eVar 1) (e1 (oFld 0 0) (eVar 3))))
    (sIf (e2 oNeS (eVar 4) (e1 (oFld 0 0) (eVar 3))) (sSeq (sAsg (gT [(gN 5), (gN 6)]) (e2 oDGet (e1 (oFld 0 1) (eVar 3)) (eVar 4)))
    (sSeq (sExpr (m1 isL oAppend (eVar 2) (aCons (eVar 6) aNil)))
    (sSet 1 (call (popped f_behind) (aCons (eVar 1) (aCons (call (popped f_back) (aCons (eVar 5) aNil)) aNil)))))) sNext)))
    (sSeq (sIf (e2 oEq (eVar 2) (eL (lDisp aNil))) (sRet (eL (lDisp (aCons (eTup (aCons (eC (.str "still")) aNil)) aNil)))) sNext)
    (sSeq (sSet 7 (eLc (lList (e1 (oFld 1 1) (e1 (oFld 7 2) (eVar 0))))))
    (sSeq (sSet 8 (m1 isL oPop (eVar 2) aNil))
    (sSeq (sFor (iRev (eVar 2)) (gN 6) (sSeq (sExpr (m1 isL oAppend (eVar 7) (aCons (eTup (aCons (eC (.str "behind")) (aCons (eVar 8) (aCons (eVar 6) aNil)))) aNil)))
    (sSet 8 (e2 oSub (e1 oLen (eVar 7)) (eC (.int 1))))))
    (sRet (call (popped f_trimmed) (aCons (eL (lCut (eVar 7) none (some (e2 oAdd (eVar 8) (eC (.int 1)))))) aNil))))))))))
def f_Group_recipe : Fn := fn 2 9 b_Group_recipe
def b_turned : S :=
    (sSeq (sSet 2 (eLc (lMul (eL (lDisp (aCons (eC (.int 0)) aNil))) (e1 oLen (eVar 0)))))
    (sSeq (sFor (iEnumT (eVar 0)) (gT [(gN 3), (gN 4)]) (sPut putL (eVar 2) (e2 oIx (eVar 1) (eVar 3)) (e2 oIx (eVar 1) (eVar 4))))
    (sRet (e1 oTuple (eVar 2)))))
def f_turned : Fn := fn 2 5 b_turned
def b_Group_paper : S :=
    (sSeq (sSet 1 (eLc (lDisp aNil)))
    (sSeq (sFor (iLst (e1 (oFld 7 3) (eVar 0))) (gN 2) (sExpr (m1 isL oAppend (eVar 1) (aCons (eTup (aCons (e1 (oFld 0 0) (eVar 2)) (aCons (eL (lComp [3] (iLst (eL (lSortK (e1 (oFld 0 1) (eVar 2))))) (gN 3) eYes (eTup (aCons (eVar 3) (aCons (e2 oIx (e2 oDGet (e1 (oFld 0 1) (eVar 2)) (eVar 3)) (eC (.int 1))) aNil))))) aNil))) aNil))))
    (sRet (eTup (aCons (eL (lList (e1 (oFld 1 1) (e1 (oFld 7 2) (eVar 0))))) (aCons (eVar 1) aNil))))))
def f_Group_paper : Fn := fn 1 4 b_Group_paper
def b_Group_listed : S :=
    (sSeq (sIf (e2 oGt (meth 7 (popped f_Group_size) (eVar 0) aNil) (eC (.int 1000))) (sRaise 8) sNext)
    (sRet (eL (lComp [1] (iRange (meth 7 (popped f_Group_size) (eVar 0) aNil)) (gN 1) eYes (meth 7 (popped f_Group_nth) (eVar 0) (aCons (eVar 1) aNil))))))
def f_Group_listed : Fn := fn 1 2 b_Group_listed
def b_loops : S :=
    (sSeq (sSet 1 (eLc (lDisp aNil)))
    (sSeq (sSet 2 (eLc (lMul (eL (lDisp (aCons (eC (.bl false)) aNil))) (e1 oLen (eVar 0)))))
    (sSeq (sFor (iRange (e1 oLen (eVar 0))) (gN 3) (sSeq (sIf (eOr (e2 oIx (eVar 2) (eVar 3)) (e2 oEqS (e2 oIx (eVar 0) (eVar 3)) (eVar 3))) sCont sNext)
    (sSeq (sSet 4 (eLc (lDisp aNil)))
    (sSeq (sSet 5 (eVar 3))
    (sSeq (sWhile (e1 oNot (e2 oIx (eVar 2) (eVar 5))) (sSeq (sPut putL (eVar 2) (eVar 5) (eC (.bl true)))
    (sSeq (sExpr (m1 isL oAppend (eVar 4) (aCons (eVar 5) aNil)))
    (sSet 5 (e2 oIx (eVar 0) (eVar 5))))))
    (sExpr (m1 isL oAppend (eVar 1) (aCons (eVar 4) aNil))))))))
    (sRet (eVar 1)))))
def f_loops : Fn := fn 1 6 b_loops
def b_shared : S :=
    (sSeq (sWhile (e2 oNeS (eVar 1) (eC (.int 0))) (sSeq (sSet 2 (e2 oMod (eVar 0) (eVar 1)))
    (sSeq (sSet 0 (eVar 1))
    (sSet 1 (eVar 2)))))
    (sRet (eVar 0)))
def f_shared : Fn := fn 2 3 b_shared
def b_order : S :=
    (sSeq (sSet 1 (eC (.int 1)))
    (sSeq (sFor (iLst (call (popped f_loops) (aCons (eVar 0) aNil))) (gN 2) (sSet 1 (e2 oMul (e2 oDiv (eVar 1) (call (popped f_shared) (aCons (eVar 1) (aCons (e1 oLen (eVar 2)) aNil)))) (e1 oLen (eVar 2)))))
    (sRet (eVar 1))))
def f_order : Fn := fn 1 3 b_order
end tb
end
section
set_option linter.all false
namespace Mi
open PySem
section
variable {env : Env} {cs : Cs} {Q : R D → Prop} {QL : R (List D) → Prop} {QS : O → Prop} {QI : R It → Prop} {c i k : Nat} {d v : D}
def objC : Cell → Option (Nat × List D)
  | .obj c fs => some (c, fs)
  | _ => none
@[simp] theorem objC_o {fs} : objC (.obj c fs) = some (c, fs) := rfl
@[simp] theorem objOf_c : objOf cs (.cell k) = cs[k]?.bind objC := by
  simp only [objOf]
  rcases cs[k]? with _ | ⟨_ | _ | _ | _ | _⟩ <;> rfl
@[simp] theorem objOf_o {fs} : objOf cs (.obj c fs) = some (c, fs) := rfl
@[simp] theorem isO_d : isO c cs d = (objOf cs d).any fun p => decide (p.1 = c) := by
  unfold isO
  rcases objOf cs d with _ | ⟨a, b⟩ <;> rfl
@[simp] theorem oFld_d : oFld c i cs d = (objOf cs d).bind fun p => if p.1 = c then p.2[i]? else none := rfl
@[simp] theorem putO_c : putO c i cs (.cell k) v = (cs[k]?.bind objC).bind fun p => if p.1 = c then (if i < p.2.length then some (cs.set k (.obj p.1 (p.2.set i v))) else if i = p.2.length then some (cs.set k (.obj p.1 (p.2 ++ [v]))) else none) else none := by
  simp only [putO]
  rcases cs[k]? with _ | ⟨_ | _ | _ | _ | _⟩ <;> try rfl
def lckC : Cell → Option (List D × List D)
  | .lck ks vs => some (ks, vs)
  | _ => none
@[simp] theorem lckC_l {ks vs} : lckC (.lck ks vs) = some (ks, vs) := rfl
@[simp] theorem lckOf_c : lckOf cs (.cell k) = cs[k]?.bind lckC := by
  simp only [lckOf]
  rcases cs[k]? with _ | ⟨_ | _ | _ | _ | _⟩ <;> rfl
@[simp] theorem unl_c : unl k cs = (cs[k]?.bind lckC).map fun p => cs.set k (.dct p.1 p.2) := by
  unfold unl
  rcases cs[k]? with _ | ⟨_ | _ | _ | _ | _⟩ <;> rfl
def makeK (k : Nat) (Q : R D → Prop) : R D → Prop
  | .v .non cs => Q (.v (.cell k) cs)
  | .v _ _ => False
  | .x c cs => Q (.x c cs)
@[simp] theorem makeK_n : makeK k Q (.v .non cs) = Q (.v (.cell k) cs) := rfl
@[simp] theorem makeK_x : makeK k Q (.x c cs) = Q (.x c cs) := rfl
@[simp] theorem got_make' {f : Fn} {xs : List D} : got (make' c f xs cs) Q = got (f (.cell cs.length :: xs) (cs ++ [.obj c []])) (makeK cs.length Q) := by
  simp only [make', got_bnd]
  congr 1
  funext r
  match r with
  | .x c cs => rfl
  | .v (.bl _) cs => simp [makeK]
  | .v .non cs => simp [makeK]
  | .v (.int _) cs => simp [makeK]
  | .v (.str _) cs => simp [makeK]
  | .v (.tup _) cs => simp [makeK]
  | .v (.lst _) cs => simp [makeK]
  | .v (.dct _ _) cs => simp [makeK]
  | .v (.obj _ _) cs => simp [makeK]
  | .v (.cell _) cs => simp [makeK]
  | .v (.fro _) cs => simp [makeK]
@[simp] theorem got_meth {f : Fn} {a l} : got (meth c f a l env cs) Q = got (a env cs) (kont (fun x cs => if isO c cs x then bnd (l env cs) (fun xs cs => f (x :: xs) cs) else none) Q) := by simp only [meth, got_bnd]
@[simp] theorem got_sPutO {o e} : got (sPutO c i o e env cs) QS = got (e env cs) (kontS env (fun v cs => thn env (o env cs) fun x cs => (putO c i cs x v).map fun cs' => .nx env cs') QS) := by simp only [sPutO, got_thn]
def unlK (k : Nat) (Q : O → Prop) : O → Prop
  | .nx env cs => got (unl k cs) fun cs => Q (.nx env cs)
  | .rt d cs => got (unl k cs) fun cs => Q (.rt d cs)
  | .bk env cs => got (unl k cs) fun cs => Q (.bk env cs)
  | .ct env cs => got (unl k cs) fun cs => Q (.ct env cs)
  | .x _ _ _ => False
@[simp] theorem unlK_nx : unlK k QS (.nx env cs) = got (unl k cs) fun cs => QS (.nx env cs) := rfl
@[simp] theorem unlK_rt : unlK k QS (.rt d cs) = got (unl k cs) fun cs => QS (.rt d cs) := rfl
@[simp] theorem unlK_bk : unlK k QS (.bk env cs) = got (unl k cs) fun cs => QS (.bk env cs) := rfl
@[simp] theorem unlK_ct : unlK k QS (.ct env cs) = got (unl k cs) fun cs => QS (.ct env cs) := rfl
theorem got_unlS {m : Option O} : got (unlS k m) QS = got m (unlK k QS) := by
  match m with
  | none => simp [unlS]
  | some (.nx env cs) => simp [unlS]
  | some (.rt d cs) => simp [unlS]
  | some (.bk env cs) => simp [unlS]
  | some (.ct env cs) => simp [unlS]
  | some (.x c env cs) => simp [unlS, unlK]
def lockK (cs : Cs) (f : Nat → List D → List D → Prop) : R D → Prop
  | .v x _ => got (cellD cs x) fun p => f p.1 p.2.1 p.2.2
  | .x _ _ => False
@[simp] theorem lockK_v {f cs'} : lockK cs f (.v d cs') = got (cellD cs d) fun p => f p.1 p.2.1 p.2.2 := rfl
@[simp] theorem got_sLock {a s} : got (sLock a s env cs) QS = got (a env cs) (lockK cs fun k ks vs => got (s env (cs.set k (.lck ks vs))) (unlK k QS)) := by
  unfold sLock
  match a env cs with
  | none => simp
  | some (.x c cs) => simp [lockK]
  | some (.v x cs') =>
    dsimp only
    cases h : cellD cs x with
    | none => simp [h]
    | some p =>
      obtain ⟨k, ks, vs⟩ := p
      simp [h, got_unlS]
def unlL (k : Nat) (Q : R (List D) → Prop) : R (List D) → Prop
  | .v d cs => got (unl k cs) fun cs => Q (.v d cs)
  | .x _ _ => False
@[simp] theorem unlL_v {ds} : unlL k QL (.v ds cs) = got (unl k cs) fun cs => QL (.v ds cs) := rfl
@[simp] theorem got_lLock {a l} : got (lLock a l env cs) QL = got (a env cs) (lockK cs fun k ks vs => got (l env (cs.set k (.lck ks vs))) (unlL k QL)) := by
  unfold lLock
  match a env cs with
  | none => simp
  | some (.x c cs) => simp [lockK]
  | some (.v x cs') =>
    dsimp only
    cases h : cellD cs x with
    | none => simp [h]
    | some p =>
      obtain ⟨k, ks, vs⟩ := p
      simp only [h, got_some, lockK_v]
      match l env (cs.set k (.lck ks vs)) with
      | none => simp [unlR]
      | some (.x c cs) => simp [unlR, unlL]
      | some (.v d cs) => simp [unlR]
@[simp] theorem got_iLck {a} : got (iLck a env cs) QI = got (a env cs) (kont (fun x cs => out ((lckOf cs x).map fun p => ⟨p.1, fun _ => true⟩) cs) QI) := by simp only [iLck, got_bnd]
@[simp] theorem got_iEnumT {a} : got (iEnumT a env cs) QI = got (a env cs) (kont (fun x cs => out ((tupOf x).map fun xs => ⟨pairs 0 xs, fun _ => true⟩) cs) QI) := by simp only [iEnumT, got_bnd]
@[simp] theorem got_iEnum {a} : got (iEnum a env cs) QI = got (a env cs) (kont (fun x cs => out ((lstOf cs x).map fun xs => ⟨pairs 0 xs, stays cs x⟩) cs) QI) := by simp only [iEnum, got_bnd]
@[simp] theorem got_iRev {a} : got (iRev a env cs) QI = got (a env cs) (kont (fun x cs => out ((lstOf cs x).map fun xs => ⟨xs.reverse, stays cs x⟩) cs) QI) := by simp only [iRev, got_bnd]
@[simp] theorem got_iZipL {a b} : got (iZipL a b env cs) QI = got (a env cs) (kont (fun x cs => bnd (b env cs) fun y cs => out ((lstOf cs x).bind fun xs => (lstOf cs y).map fun ys => ⟨(xs.zip ys).map fun p => .tup [p.1, p.2], fun cs' => stays cs x cs' && stays cs y cs'⟩) cs) QI) := by simp only [iZipL, got_bnd]
@[simp] theorem got_lKeys {a} : got (lKeys a env cs) QL = got (a env cs) (kont (fun x cs => out ((dctOf cs x).map fun p => p.1) cs) QL) := by simp only [lKeys, got_bnd]
@[simp] theorem got_lSortK {a} : got (lSortK a env cs) QL = got (a env cs) (kont (fun x cs => out ((dctOf cs x).bind fun p => (intsOf p.1).bind fun ns => if ns.length < 64 then some ((sortI ns).map .int) else none) cs) QL) := by simp only [lSortK, got_bnd]
@[simp] theorem got_eCutT {a lo hi} : got (eCutT a lo hi env cs) Q = got (a env cs) (kont (fun x cs => bnd (partE lo env cs) fun l cs => bnd (partE hi env cs) fun h cs => out ((tupOf x).map fun xs => .tup (cut xs l h)) cs) Q) := by simp only [eCutT, got_bnd]
def repOf (xs : List D) : D → Option (List D)
  | .int n => if 0 ≤ n ∧ xs.length * n.toNat ≤ SIZE ∧ n < 16777216 then some (List.flatten (List.replicate n.toNat xs)) else none
  | _ => none
@[simp] theorem repOf_i {xs : List D} {n : Int} : repOf xs (.int n) = if 0 ≤ n ∧ xs.length * n.toNat ≤ SIZE ∧ n < 16777216 then some (List.flatten (List.replicate n.toNat xs)) else none := rfl
@[simp] theorem got_lMul {a b} : got (lMul a b env cs) QL = got (a env cs) (kont (fun x cs => bnd (b env cs) fun y cs => out ((ownOf cs x).bind fun xs => repOf xs y) cs) QL) := by
  simp only [lMul, got_bnd]
  congr 2
def chn2 (t : Option D) (m : Option (R D)) (cs : Cs) : Option (R D) := match t with
  | some (.bl true) => m
  | some (.bl false) => some (.v (.bl false) cs)
  | _ => none
@[simp] theorem chn2_b {b : Bool} {m} : chn2 (some (.bl b)) m cs = if b = true then m else some (.v (.bl false) cs) := by cases b <;> rfl
@[simp] theorem got_eChain {o o' a b e} : got (eChain o o' a b e env cs) Q = got (a env cs) (kont (fun x cs => bnd (b env cs) fun y cs => chn2 (o cs x y) (bnd (e env cs) fun z cs => out (o' cs y z) cs) cs) Q) := by
  simp only [eChain, got_bnd]
  rfl
def tryK (hs : List ((Nat → Option Bool) × S)) (Q : O → Prop) : O → Prop
  | .x c env cs => (match pick c hs with
    | some (some s) => got (s env cs) Q
    | some none => Q (.x c env cs)
    | none => False)
  | o => Q o
@[simp] theorem tryK_nx {hs} : tryK hs QS (.nx env cs) = QS (.nx env cs) := rfl
@[simp] theorem tryK_rt {hs} : tryK hs QS (.rt d cs) = QS (.rt d cs) := rfl
@[simp] theorem tryK_bk {hs} : tryK hs QS (.bk env cs) = QS (.bk env cs) := rfl
@[simp] theorem tryK_ct {hs} : tryK hs QS (.ct env cs) = QS (.ct env cs) := rfl
theorem tryK_x {hs s} (h : pick c hs = some (some s)) : tryK hs QS (.x c env cs) = got (s env cs) QS := by
  simp only [tryK, h]
@[simp] theorem got_sTry {b hs} : got (sTry b hs env cs) QS = got (b env cs) (tryK hs QS) := by
  unfold sTry
  match b env cs with
  | none => simp
  | some (.nx env cs) => simp
  | some (.rt d cs) => simp
  | some (.bk env cs) => simp
  | some (.ct env cs) => simp
  | some (.x c env cs) =>
    simp only [got_some, tryK]
    rcases pick c hs with _ | _ | s
    · simp
    · simp
    · simp
@[simp] theorem oPop_d : oPop cs d [] = (cellL cs d).bind fun p => p.2.getLast?.map fun y => (y, cs.set p.1 (.lst p.2.dropLast)) := by
  unfold oPop
  cases cellL cs d with
  | none => rfl
  | some p => rfl
@[simp] theorem oPopAt_d {i : Int} : oPopAt cs d [.int i] = (cellL cs d).bind fun p => if 0 ≤ i ∧ i < 16777216 then (p.2[i.toNat]?).map fun y => (y, cs.set p.1 (.lst (p.2.eraseIdx i.toNat))) else none := by
  unfold oPopAt
  cases cellL cs d with
  | none => rfl
  | some p => rfl
@[simp] theorem oLenU_d : oLenU cs d = (cellD cs d).map fun p => .int p.2.1.length := rfl
@[simp] theorem oLenD_d : oLenD cs d = (dctOf cs d).map fun p => .int p.1.length := rfl
@[simp] theorem oDivmod_i {i j : Int} : oDivmod cs (.int i) (.int j) = if 0 < j ∧ j.natAbs.log2 < 9000 then some (.tup [.int (i / j), .int (i % j)]) else none := rfl
@[simp] theorem oIs_b {a b : Bool} : oIs cs (.bl a) (.bl b) = some (.bl (decide (a = b))) := rfl
@[simp] theorem oIsNot_b {a b : Bool} : oIsNot cs (.bl a) (.bl b) = some (.bl (!decide (a = b))) := rfl
@[simp] theorem oIsa_tt {xs} : oIsa .tuple cs (.tup xs) = some (.bl true) := rfl
@[simp] theorem oIsa_ii {j : Int} : oIsa .int cs (.int j) = some (.bl true) := rfl
@[simp] theorem oIsa_ib {j : Int} : oIsa .bool cs (.int j) = some (.bl false) := rfl
@[simp] theorem oIsa_ll {xs} : oIsa .list cs (.lst xs) = some (.bl true) := rfl
@[simp] theorem oTupRange_i {i : Int} : oTupRange cs (.int i) = (rngOf (.int i)).map .tup := rfl
end
theorem got_poppedW {f : Fn} {xs : List D} {cs : Cs} {Q : R D → Prop} (h : got (f xs cs) fun r => ∃ d own cs1 d', r = .v d (cs1 ++ own) ∧ cs1.length = cs.length ∧ (∀ k, k < cs.length → cs1[k]? = cs[k]? ∨ ∃ c, cs1[k]? = some c ∧ c.under cs.length = true) ∧ frozen cs.length (cs1 ++ own) d = some d' ∧ Q (.v d' cs1)) : got (popped f xs cs) Q := by
  obtain ⟨r, e, d, own, cs1, d', rfl, hl, hp, hf, q⟩ := h
  have p : popOk cs.length cs (cs1 ++ own) = true := popOk_of fun j hj => by
    rw [List.getElem?_append_left (by rw [hl]; exact hj)]
    exact hp j hj
  refine ⟨.v d' cs1, ?_, q⟩
  unfold popped
  rw [e]
  dsimp only
  rw [if_pos p, hf, Option.map_some]
  rw [show (cs1 ++ own).take cs.length = cs1 from by rw [← hl]; exact List.take_left ..]
theorem got_poppedX {f : Fn} {xs : List D} {cs : Cs} {Q : R D → Prop} (h : got (f xs cs) fun r => (∃ d own d', r = .v d (cs ++ own) ∧ frozen cs.length (cs ++ own) d = some d' ∧ Q (.v d' cs)) ∨ ∃ c own, r = .x c (cs ++ own) ∧ Q (.x c cs)) : got (popped f xs cs) Q := by
  obtain ⟨r, e, h⟩ := h
  rcases h with ⟨d, own, d', rfl, hf, q⟩ | ⟨c, own, rfl, q⟩
  · exact got_popped ⟨_, e, d, own, d', rfl, hf, q⟩
  · have p : popOk cs.length cs (cs ++ own) = true := popOk_of fun k hk => .inl (List.getElem?_append_left hk)
    refine ⟨.x c cs, ?_, q⟩
    unfold popped
    rw [e]
    dsimp only
    rw [if_pos p, List.take_left]
end Mi
end
section
set_option linter.all false
namespace Mi
open PySem
structure Pm (n : Nat) where
  l : List Nat
  ok : l.Perm (List.range n)
  deriving DecidableEq
theorem perm_range {n : Nat} {l : List Nat} (hl : l.length = n) (hn : l.Nodup) (h : ∀ x ∈ l, x < n) : l.Perm (List.range n) := by
  refine (List.perm_ext_iff_of_nodup hn List.nodup_range).mpr fun a => ⟨fun ha => List.mem_range.mpr (h a ha), fun ha => ?_⟩
  exact nodup_sup hn (fun x hx => List.mem_range.mpr (h x hx)) (by rw [List.length_range]; omega) a ha
namespace Pm
variable {n : Nat}
def ap (p : Pm n) (i : Nat) : Nat := p.l.getD i i
instance : CoeFun (Pm n) fun _ => Nat → Nat := ⟨ap⟩
theorem len (p : Pm n) : p.l.length = n := by rw [p.ok.length_eq, List.length_range]
theorem nd (p : Pm n) : p.l.Nodup := p.ok.nodup_iff.mpr List.nodup_range
theorem get (p : Pm n) {i : Nat} (h : i < n) : p.l[i]? = some (p i) := by
  have : i < p.l.length := by rw [p.len]; exact h
  show p.l[i]? = some (p.l.getD i i)
  rw [List.getD_eq_getElem?_getD, List.getElem?_eq_getElem this]
  rfl
theorem ap_ge (p : Pm n) {i : Nat} (h : n ≤ i) : p i = i := by
  show p.l.getD i i = i
  rw [List.getD_eq_getElem?_getD, List.getElem?_eq_none (by rw [p.len]; exact h)]
  rfl
theorem ap_lt (p : Pm n) {i : Nat} (h : i < n) : p i < n := List.mem_range.mp (p.ok.subset (List.mem_of_getElem? (p.get h)))
theorem ap_lt_iff (p : Pm n) {i : Nat} : p i < n ↔ i < n := by
  constructor
  · intro h
    by_cases hi : i < n
    · exact hi
    · rw [p.ap_ge (by omega)] at h
      exact h
  · exact p.ap_lt
theorem inj (p : Pm n) {i j : Nat} (h : p i = p j) : i = j := by
  by_cases hi : i < n
  · have hj : j < n := p.ap_lt_iff.mp (h ▸ p.ap_lt hi)
    have e : p.l[i]? = p.l[j]? := by rw [p.get hi, p.get hj, h]
    exact (List.getElem?_inj (by rw [p.len]; exact hi) p.nd).mp e
  · have hj : ¬ j < n := fun hj => hi (p.ap_lt_iff.mp (h ▸ p.ap_lt hj))
    rw [p.ap_ge (by omega), p.ap_ge (by omega)] at h
    exact h
theorem l_eq (p : Pm n) : p.l = (List.range n).map p := by
  refine List.ext_getElem? fun i => ?_
  rw [List.getElem?_map]
  by_cases hi : i < n
  · rw [p.get hi, List.getElem?_range hi]
    rfl
  · rw [List.getElem?_eq_none (by rw [p.len]; omega), List.getElem?_eq_none (by rw [List.length_range]; omega)]
    rfl
theorem ext_l {p q : Pm n} (h : p.l = q.l) : p = q := by
  cases p
  cases q
  cases h
  rfl
theorem ext {p q : Pm n} (h : ∀ i, i < n → p i = q i) : p = q := by
  refine ext_l ?_
  rw [p.l_eq, q.l_eq]
  exact List.map_congr_left fun i hi => h i (List.mem_range.mp hi)
theorem ext' {p q : Pm n} (h : ∀ i, p i = q i) : p = q := ext fun i _ => h i
def ofF (f : Nat → Nat) (hl : ∀ i, i < n → f i < n) (hi : ∀ i j, i < n → j < n → f i = f j → i = j) : Pm n := ⟨(List.range n).map f, perm_range (by simp) (by
    rw [List.Nodup, List.pairwise_map]
    refine List.Pairwise.imp_of_mem (fun {a b} ha hb hab e => hab (hi a b (List.mem_range.mp ha) (List.mem_range.mp hb) e)) List.nodup_range) (fun x hx => by
    obtain ⟨i, h, rfl⟩ := List.mem_map.mp hx
    exact hl i (List.mem_range.mp h))⟩
theorem ofF_ap {f : Nat → Nat} {hl : ∀ i, i < n → f i < n} {hi} {i : Nat} (h : i < n) : (ofF f hl hi : Pm n) i = f i := by
  have : (ofF f hl hi : Pm n).l[i]? = some (f i) := by
    show ((List.range n).map f)[i]? = _
    rw [List.getElem?_map, List.getElem?_range h]
    rfl
  have e := (ofF f hl hi : Pm n).get h
  rw [this] at e
  exact (Option.some.inj e).symm
instance : One (Pm n) := ⟨⟨List.range n, List.Perm.refl _⟩⟩
instance : Mul (Pm n) := ⟨fun p q => ofF (fun i => q (p i)) (fun i h => q.ap_lt (p.ap_lt h)) fun i j _ _ h => p.inj (q.inj h)⟩
theorem surj (p : Pm n) (j : Nat) : ∃ i, p i = j := by
  by_cases h : j < n
  · obtain ⟨i, hi⟩ := List.getElem?_of_mem (p.ok.symm.subset (List.mem_range.mpr h))
    have : i < n := by
      have := (List.getElem?_eq_some_iff.mp hi).1
      rwa [p.len] at this
    rw [p.get this] at hi
    exact ⟨i, Option.some.inj hi⟩
  · exact ⟨j, p.ap_ge (by omega)⟩
def iv (p : Pm n) (j : Nat) : Nat := (p.l.idxOf? j).getD j
theorem iv_ap (p : Pm n) (i : Nat) : p.iv (p i) = i := by
  unfold iv
  by_cases h : i < n
  · have hl : i < p.l.length := by rw [p.len]; exact h
    have e : p.l.idxOf? (p i) = some i := by
      rw [List.idxOf?_eq_some_iff]
      refine ⟨hl, ?_, fun j hj => ?_⟩
      · have := p.get h
        rw [List.getElem?_eq_getElem hl] at this
        simpa using Option.some.inj this
      · have hj2 : j < n := by omega
        have := p.get hj2
        rw [List.getElem?_eq_getElem (by omega)] at this
        simp only [Option.some.inj this]
        simp
        intro e'
        have := p.inj e'
        omega
    rw [e]
    rfl
  · rw [p.ap_ge (by omega)]
    have : p.l.idxOf? i = none := by
      rw [List.idxOf?_eq_none_iff]
      intro hm
      exact h (List.mem_range.mp (p.ok.subset hm))
    rw [this]
    rfl
theorem ap_iv (p : Pm n) (j : Nat) : p (p.iv j) = j := by
  obtain ⟨i, rfl⟩ := p.surj j
  rw [p.iv_ap]
instance : Inv (Pm n) := ⟨fun p => ofF p.iv (fun i h => by rw [← p.ap_lt_iff, p.ap_iv]; exact h) fun i j _ _ h => by rw [← p.ap_iv i, h, p.ap_iv]⟩
@[simp] theorem one_ap (i : Nat) : (1 : Pm n) i = i := by
  by_cases h : i < n
  · have := (1 : Pm n).get h
    have e : (1 : Pm n).l = List.range n := rfl
    rw [e, List.getElem?_range h] at this
    exact (Option.some.inj this).symm
  · exact ap_ge _ (by omega)
@[simp] theorem mul_ap (p q : Pm n) (i : Nat) : (p * q) i = q (p i) := by
  by_cases h : i < n
  · exact ofF_ap h
  · rw [ap_ge _ (by omega), p.ap_ge (by omega), q.ap_ge (by omega)]
@[simp] theorem inv_ap (p : Pm n) (i : Nat) : p⁻¹ (p i) = i := by
  by_cases h : i < n
  · rw [show p⁻¹ (p i) = p.iv (p i) from ofF_ap (p.ap_lt h), p.iv_ap]
  · rw [p.ap_ge (by omega), ap_ge _ (by omega)]
@[simp] theorem ap_inv (p : Pm n) (i : Nat) : p (p⁻¹ i) = i := by
  obtain ⟨j, rfl⟩ := p.surj i
  rw [inv_ap]
theorem mul_assoc (p q r : Pm n) : p * q * r = p * (q * r) := ext' fun i => by simp
@[simp] theorem one_mul (p : Pm n) : 1 * p = p := ext' fun i => by simp
@[simp] theorem mul_one (p : Pm n) : p * 1 = p := ext' fun i => by simp
@[simp] theorem inv_mul (p : Pm n) : p⁻¹ * p = 1 := ext' fun i => by simp
@[simp] theorem mul_inv (p : Pm n) : p * p⁻¹ = 1 := ext' fun i => by simp
@[simp] theorem mul_inv_cancel (p q : Pm n) : p * (p⁻¹ * q) = q := ext' fun i => by simp
@[simp] theorem inv_mul_cancel (p q : Pm n) : p⁻¹ * (p * q) = q := ext' fun i => by simp
@[simp] theorem inv_inv (p : Pm n) : p⁻¹⁻¹ = p := ext' fun i => by
  refine p⁻¹.inj ?_
  rw [ap_inv, inv_ap]
@[simp] theorem inv_one : (1 : Pm n)⁻¹ = 1 := by
  have := mul_inv (1 : Pm n)
  rwa [one_mul] at this
theorem mul_inv_rev (p q : Pm n) : (p * q)⁻¹ = q⁻¹ * p⁻¹ := ext' fun i => by
  obtain ⟨j, rfl⟩ := (p * q).surj i
  rw [inv_ap]
  simp
theorem mul_right_cancel {p q r : Pm n} (h : p * r = q * r) : p = q := by
  have := congrArg (· * r⁻¹) h
  simpa [mul_assoc] using this
theorem mul_left_cancel {p q r : Pm n} (h : r * p = r * q) : p = q := by
  have := congrArg (r⁻¹ * ·) h
  simpa using this
theorem eq_mul_inv {p q r : Pm n} : p = q * r⁻¹ ↔ p * r = q := by
  constructor
  · rintro rfl
    simp [mul_assoc]
  · rintro rfl
    simp [mul_assoc]
theorem mul_inv_eq_one {p q : Pm n} : p * q⁻¹ = 1 ↔ p = q := by
  constructor
  · intro h
    have := congrArg (· * q) h
    simpa [mul_assoc] using this
  · rintro rfl
    simp
theorem inv_ap_eq {p : Pm n} {i j : Nat} : p⁻¹ i = j ↔ p j = i := by
  constructor
  · rintro rfl
    simp
  · rintro rfl
    simp
theorem mul_l (p q : Pm n) : (p * q).l = p.l.map q := by
  rw [(p * q).l_eq, p.l_eq, List.map_map]
  exact List.map_congr_left fun i _ => by simp
theorem one_l : (1 : Pm n).l = List.range n := rfl
def pw (p : Pm n) : Nat → Pm n
  | 0 => 1
  | k + 1 => pw p k * p
@[simp] theorem pw_zero (p : Pm n) : p.pw 0 = 1 := rfl
theorem pw_succ (p : Pm n) (k : Nat) : p.pw (k + 1) = p.pw k * p := rfl
theorem pw_add (p : Pm n) (a b : Nat) : p.pw (a + b) = p.pw a * p.pw b := by
  induction b with
  | zero => simp
  | succ b ih => rw [← Nat.add_assoc, pw_succ, ih, pw_succ, mul_assoc]
end Pm
def words (n : Nat) : Nat → List (List Nat)
  | 0 => [[]]
  | k + 1 => (words n k).flatMap fun w => (List.range n).map (· :: w)
theorem words_mem {n : Nat} : ∀ {k : Nat} {l : List Nat}, l ∈ words n k ↔ l.length = k ∧ ∀ x ∈ l, x < n
  | 0, l => by simp [words]; intro h; subst h; simp
  | k + 1, l => by
    simp only [words, List.mem_flatMap, List.mem_map, List.mem_range]
    constructor
    · rintro ⟨w, hw, x, hx, rfl⟩
      have := words_mem.mp hw
      refine ⟨by simp [this.1], fun y hy => ?_⟩
      rcases List.mem_cons.mp hy with rfl | hy
      · exact hx
      · exact this.2 y hy
    · rintro ⟨hl, h⟩
      cases l with
      | nil => simp at hl
      | cons x w => exact ⟨w, words_mem.mpr ⟨by simpa using hl, fun y hy => h y (List.mem_cons_of_mem _ hy)⟩, x, h x List.mem_cons_self, rfl⟩
theorem words_nodup (n : Nat) : ∀ k : Nat, (words n k).Nodup
  | 0 => by simp [words]
  | k + 1 => by
    simp only [words]
    rw [List.Nodup, List.pairwise_flatMap]
    refine ⟨fun w _ => ?_, (words_nodup n k).imp fun {a b} hab x hx y hy e => ?_⟩
    · rw [List.pairwise_map]
      exact List.nodup_range.imp fun hab e => hab (by simpa using e)
    · obtain ⟨i, _, rfl⟩ := List.mem_map.mp hx
      obtain ⟨j, _, rfl⟩ := List.mem_map.mp hy
      exact hab (List.cons.inj e).2
open Classical in
noncomputable def allP (n : Nat) : List (Pm n) := (words n n).filterMap fun l => if h : l.Perm (List.range n) then some ⟨l, h⟩ else none
theorem allP_mem {n : Nat} (p : Pm n) : p ∈ allP n := by
  unfold allP
  rw [List.mem_filterMap]
  refine ⟨p.l, words_mem.mpr ⟨p.len, fun x hx => List.mem_range.mp (p.ok.subset hx)⟩, ?_⟩
  rw [dif_pos p.ok]
theorem allP_nodup (n : Nat) : (allP n).Nodup := by
  unfold allP
  refine List.Pairwise.filterMap _ (R := (· ≠ ·)) (fun a b hab x hx y hy e => ?_) (words_nodup n n)
  split at hx
  · split at hy
    · cases hx
      cases hy
      exact hab (congrArg Pm.l e)
    · cases hy
  · cases hx
def Card {α : Type} (S : α → Prop) (N : Nat) : Prop := ∃ L : List α, L.Nodup ∧ (∀ x, x ∈ L ↔ S x) ∧ L.length = N
theorem Card.uniq {α : Type} {S : α → Prop} {N M : Nat} (h : Card S N) (h2 : Card S M) : N = M := by
  classical
  obtain ⟨L, a, b, rfl⟩ := h
  obtain ⟨K, c, d, rfl⟩ := h2
  have := nodup_sub a fun x hx => (d x).mpr ((b x).mp hx)
  have := nodup_sub c fun x hx => (b x).mpr ((d x).mp hx)
  omega
theorem Card.ex {n : Nat} (S : Pm n → Prop) : ∃ N, Card S N := by
  classical
  refine ⟨_, (allP n).filter fun x => decide (S x), (allP_nodup n).filter _, fun x => ?_, rfl⟩
  rw [List.mem_filter]
  simp [allP_mem]
theorem Card.le {α : Type} {S T : α → Prop} {N M : Nat} (h : Card S N) (h2 : Card T M) (s : ∀ x, S x → T x) : N ≤ M := by
  classical
  obtain ⟨L, a, b, rfl⟩ := h
  obtain ⟨K, c, d, rfl⟩ := h2
  exact nodup_sub a fun x hx => (d x).mpr (s x ((b x).mp hx))
theorem Card.lt {α : Type} {S T : α → Prop} {N M : Nat} (h : Card S N) (h2 : Card T M) (s : ∀ x, S x → T x) {x : α} (hx : T x) (hn : ¬ S x) : N < M := by
  classical
  obtain ⟨L, a, b, rfl⟩ := h
  obtain ⟨K, c, d, rfl⟩ := h2
  have := nodup_sub (l := x :: L) (l2 := K) (List.nodup_cons.mpr ⟨fun h => hn ((b x).mp h), a⟩) fun y hy => by
    rcases List.mem_cons.mp hy with rfl | hy
    · exact (d _).mpr hx
    · exact (d y).mpr (s y ((b y).mp hy))
  rw [List.length_cons] at this
  exact this
theorem Pm.ord {n : Nat} (p : Pm n) : ∃ k, 0 < k ∧ p.pw k = 1 := by
  classical
  let N := (allP n).length
  have : ¬ ((List.range (N + 1)).map p.pw).Nodup := fun h => by
    have := nodup_sub h fun x _ => allP_mem x
    simp at this
    omega
  rw [List.Nodup, List.pairwise_map] at this
  have ⟨i, j, hij, e⟩ : ∃ i j, i < j ∧ p.pw i = p.pw j := by
    refine Classical.byContradiction fun hc => this ?_
    refine (List.pairwise_lt_range (n := N + 1)).imp fun {a b} hab e => hc ⟨a, b, hab, e⟩
  refine ⟨j - i, by omega, ?_⟩
  have h2 : p.pw i * p.pw (j - i) = p.pw i * 1 := by
    rw [← Pm.pw_add, show i + (j - i) = j by omega, Pm.mul_one, e]
  exact Pm.mul_left_cancel h2
theorem Pm.inv_pw {n : Nat} (p : Pm n) : ∃ k, p⁻¹ = p.pw k := by
  obtain ⟨k, hk, e⟩ := p.ord
  obtain ⟨k, rfl⟩ : ∃ j, k = j + 1 := ⟨k - 1, by omega⟩
  refine ⟨k, ?_⟩
  rw [Pm.pw_succ] at e
  have := congrArg (· * p⁻¹) e
  simpa [Pm.mul_assoc] using this.symm
structure Sg {n : Nat} (H : Pm n → Prop) : Prop where
  one : H 1
  mul : ∀ {a b}, H a → H b → H (a * b)
  inv : ∀ {a}, H a → H a⁻¹
inductive Gen {n : Nat} (M : Pm n → Prop) : Pm n → Prop where
  | one : Gen M 1
  | of {a} : M a → Gen M a
  | mul {a b} : Gen M a → Gen M b → Gen M (a * b)
  | inv {a} : Gen M a → Gen M a⁻¹
section
variable {n : Nat} {M N H : Pm n → Prop}
theorem Gen.sg (M : Pm n → Prop) : Sg (Gen M) := ⟨.one, .mul, .inv⟩
theorem Gen.sub (hH : Sg H) (h : ∀ a, M a → H a) {a : Pm n} (g : Gen M a) : H a := by
  induction g with
  | one => exact hH.one
  | of m => exact h _ m
  | mul _ _ ha hb => exact hH.mul ha hb
  | inv _ ha => exact hH.inv ha
theorem Gen.mono (h : ∀ a, M a → N a) {a : Pm n} (g : Gen M a) : Gen N a := g.sub (Gen.sg N) fun a m => .of (h a m)
theorem Gen.mono' (h : ∀ a, M a → Gen N a) {a : Pm n} (g : Gen M a) : Gen N a := g.sub (Gen.sg N) h
theorem Sg.pw (hH : Sg H) {a : Pm n} (h : H a) : ∀ k, H (a.pw k)
  | 0 => hH.one
  | k + 1 => hH.mul (hH.pw h k) h
theorem Gen.right {Q : Pm n → Prop} (h : ∀ q m, Q q → M m → Q (q * m)) {g : Pm n} (hg : Gen M g) : ∀ q, Q q → Q (q * g) := by
  have pwc : ∀ (a : Pm n), (∀ q, Q q → Q (q * a)) → ∀ k q, Q q → Q (q * a.pw k) := fun a ha k => by
    induction k with
    | zero => intro q hq; simpa using hq
    | succ k ih =>
      intro q hq
      rw [Pm.pw_succ, ← Pm.mul_assoc]
      exact ha _ (ih q hq)
  induction hg with
  | one => intro q hq; simpa using hq
  | of m => exact fun q hq => h q _ hq m
  | mul _ _ ha hb =>
    intro q hq
    rw [← Pm.mul_assoc]
    exact hb _ (ha q hq)
  | @inv a _ ha =>
    intro q hq
    obtain ⟨k, e⟩ := a.inv_pw
    rw [e]
    exact pwc a ha k q hq
theorem Sg.and (h : Sg H) (h2 : Sg N) : Sg fun g => H g ∧ N g := ⟨⟨h.one, h2.one⟩, fun a b => ⟨h.mul a.1 b.1, h2.mul a.2 b.2⟩, fun a => ⟨h.inv a.1, h2.inv a.2⟩⟩
def Fx (l : Nat) (g : Pm n) : Prop := ∀ i, i < l → g i = i
theorem Fx.sg (l : Nat) : Sg (Fx (n := n) l) := ⟨fun i _ => by simp, fun ha hb i hi => by simp [ha i hi, hb i hi], fun ha i hi => by rw [Pm.inv_ap_eq]; exact ha i hi⟩
theorem Fx.zero (g : Pm n) : Fx 0 g := fun i h => absurd h (Nat.not_lt_zero _)
theorem Fx.all {g : Pm n} (h : Fx n g) : g = 1 := Pm.ext fun i hi => by rw [h i hi]; simp
theorem Fx.le {l k : Nat} (h : Fx l (n := n) g) (hk : k ≤ l) : Fx k g := fun i hi => h i (by omega)
theorem Fx.succ {l : Nat} {g : Pm n} (h : Fx l g) (e : g l = l) : Fx (l + 1) g := fun i hi => by
  by_cases hl : i = l
  · rw [hl]; exact e
  · exact h i (by omega)
end
end Mi
end
section
set_option linter.all false
set_option maxHeartbeats 1000000
namespace Mi
open PySem tb
abbrev pD {n : Nat} (p : Pm n) : D := tp p.l
theorem pD_pure {n : Nat} (p : Pm n) : (pD p).pure = true := pures_dis _
theorem atI_dis {l : List Nat} {i x : Nat} (h : l[i]? = some x) : atI (dis l) (i : Int) = some (di x) := atI_nat (by rw [List.getElem?_map, h]; rfl)
theorem pD_at {n : Nat} (p : Pm n) {i : Nat} (h : i < n) : atI (dis p.l) (i : Int) = some (di (p i)) := atI_dis (p.get h)
theorem tp_inj {a b : List Nat} : tp a = tp b ↔ a = b := by
  constructor
  · intro h
    injection h with h
    exact dis_inj.mp h
  · intro h
    rw [h]
theorem pD_inj {n : Nat} {p q : Pm n} : pD p = pD q ↔ p = q := ⟨fun h => Pm.ext_l (tp_inj.mp h), fun h => by rw [h]⟩
section
variable {n : Nat} {cs : Cs} {Q : R D → Prop}
theorem still_ok (hn : n ≤ 60) (h : Q (.v (pD (1 : Pm n)) cs)) : got (popped f_still [di n] cs) Q := by
  refine got_popped (got_fn rfl ?_)
  simp [b_still]
  refine ⟨by omega, _, [], ⟨rfl, (List.append_nil _).symm⟩, _, frozen_pure (by rw [rng_nat]; exact pures_dis _), ?_⟩
  rw [rng_nat]
  exact h
theorem behind_ok (p q : Pm n) (hn : n ≤ 60) (h : Q (.v (pD (p * q)) cs)) : got (popped f_behind [pD p, pD q] cs) Q := by
  refine got_popped (got_fn rfl ?_)
  simp [b_behind, wipe]
  refine got_lc_map (fun d => match d with | .int i => di (q i.toNat) | d => d) rfl (by rw [List.length_map, p.len]; show n ≤ 16777216; omega) (fun x hx => ?_) ?_
  · obtain ⟨i, hi, rfl⟩ := List.mem_map.mp hx
    have hin : i < n := List.mem_range.mp (p.ok.subset hi)
    simp [eYes, pD_at q hin]
  · simp
    refine ⟨_, [], ⟨rfl, (List.append_nil _).symm⟩, _, frozen_pure (D.pures_iff.mpr fun x hx => ?_), ?_⟩
    · obtain ⟨i, _, rfl⟩ := List.mem_map.mp hx
      rfl
    · have e : pD (p * q) = D.tup (List.map ((fun d => match d with | .int i => di (q i.toNat) | d => d) ∘ di) p.l) := by
        rw [pD, Pm.mul_l]
        simp [Function.comp_def]
      rw [e] at h
      exact h
theorem pairs_eq (k : Nat) : ∀ xs : List D, pairs k xs = (xs.zipIdx k).map fun p => .tup [di p.2, p.1]
  | [] => rfl
  | x :: xs => by
    rw [List.zipIdx_cons, List.map_cons, ← pairs_eq (k + 1) xs]
    rfl
theorem pairs_at {k i : Nat} {xs : List D} {x : D} (h : (pairs k xs)[i]? = some x) : ∃ y, xs[i]? = some y ∧ x = .tup [di (k + i), y] := by
  rw [pairs_eq, List.getElem?_map, List.getElem?_zipIdx] at h
  cases e : xs[i]? with
  | none => rw [e] at h; cases h
  | some y =>
    rw [e] at h
    exact ⟨y, rfl, (Option.some.inj h).symm⟩
theorem pairs_len (k : Nat) (xs : List D) : (pairs k xs).length = xs.length := by rw [pairs_eq]; simp
theorem back_ok (p : Pm n) (hn : n ≤ 60) (h : Q (.v (pD p⁻¹) cs)) : got (popped f_back [pD p] cs) Q := by
  refine got_popped (got_fn rfl ?_)
  have hl := p.len
  simp [b_back, hl]
  refine ⟨⟨by omega, by omega⟩, got_for (fun i env cs' => ∃ (l : List Nat) (y2 y3 : Option D), env = [some (pD p), some (.cell cs.length), y2, y3] ∧ cs' = cs ++ [.lst (dis l)] ∧ l.length = n ∧ ∀ j, j < i → l[p j]? = some j)
    ⟨List.replicate n 0, none, none, rfl, ?_, by simp, fun j h => absurd h (Nat.not_lt_zero _)⟩ (fun _ _ _ _ _ => rfl) (fun i x env cs' hx hI => ?_) fun env cs' hI => ?_⟩
  · simp
  · obtain ⟨l, y2, y3, rfl, rfl, hll, hj⟩ := hI
    obtain ⟨y, hy, rfl⟩ := pairs_at hx
    rw [List.getElem?_map] at hy
    obtain ⟨z, hz, rfl⟩ := Option.map_eq_some_iff.mp hy
    have hi : i < n := by have := (List.getElem?_eq_some_iff.mp hz).1; omega
    rw [p.get hi] at hz
    cases hz
    have hlt := p.ap_lt hi
    simp [ixN_nat (show p i < l.length by omega)]
    refine ⟨l.set (p i) i, by simp, by simp [hll], fun j hji => ?_⟩
    by_cases e : j = i
    · subst e
      rw [List.getElem?_set_self (by omega)]
    · rw [List.getElem?_set_ne (fun h => e (p.inj h.symm))]
      exact hj j (by omega)
  · obtain ⟨l, y2, y3, rfl, rfl, hll, hj⟩ := hI
    rw [pairs_len, List.length_map, hl] at hj
    simp
    refine ⟨_, _, ⟨rfl, rfl⟩, _, frozen_pure (pures_dis _), ?_⟩
    have : l = p⁻¹.l := List.ext_getElem? fun j => by
      by_cases h : j < n
      · rw [Pm.get _ h]
        have := hj (p⁻¹ j) (Pm.ap_lt _ h)
        rwa [Pm.ap_inv] at this
      · rw [List.getElem?_eq_none (by omega), List.getElem?_eq_none (by rw [Pm.len]; omega)]
    rw [this]
    exact h
theorem whole_ok (i : Int) (h : Q (.v (.bl true) cs)) : got (popped f_is_whole [.int i] cs) Q := by
  refine got_popped (got_fn rfl ?_)
  simp [b_is_whole]
  exact ⟨_, [], ⟨rfl, (List.append_nil _).symm⟩, _, frozen_pure rfl, h⟩
theorem is_turning_ok (p : Pm n) (h1 : 1 ≤ n) (hn : n ≤ 60) (h : Q (.v (.bl true) cs)) : got (popped f_is_turning [pD p] cs) Q := by
  refine got_popped (got_fn rfl ?_)
  have hl := p.len
  have g1 : ¬ ((n : Int) < 1) := by omega
  have g2 : ¬ ((60 : Int) < n) := by omega
  simp [b_is_turning, hl, g1, g2]
  refine ⟨⟨by omega, by omega⟩, got_for (fun i env cs' => ∃ (l : List Bool) (y2 : Option D), env = [some (pD p), some (.cell cs.length), y2] ∧ cs' = cs ++ [.lst (l.map .bl)] ∧ l.length = n ∧ ∀ j, i ≤ j → j < n → l[p j]? = some false)
    ⟨List.replicate n false, none, rfl, ?_, by simp, fun j _ h => ?_⟩ (fun _ _ _ _ _ => rfl) (fun i x env cs' hx hI => ?_) fun env cs' hI => ?_⟩
  · simp
  · have := p.ap_lt h
    simp [this]
  · obtain ⟨l, y2, rfl, rfl, hll, hj⟩ := hI
    rw [List.getElem?_map] at hx
    obtain ⟨z, hz, rfl⟩ := Option.map_eq_some_iff.mp hx
    have hi : i < n := by have := (List.getElem?_eq_some_iff.mp hz).1; omega
    rw [p.get hi] at hz
    cases hz
    have hlt := p.ap_lt hi
    have q : atI (l.map D.bl) ((p i : Nat) : Int) = some (.bl false) := atI_nat (by rw [List.getElem?_map, hj i (Nat.le_refl _) hi]; rfl)
    have g3 : ¬ ((p i : Int) < 0) := by omega
    have g4 : ¬ (n ≤ p i) := by omega
    simp
    refine whole_ok _ ?_
    simp [g3, g4, q, hl, ixN_nat (show p i < l.length by omega)]
    refine ⟨l.set (p i) true, ?_, by simp [hll], fun j hij hjn => ?_⟩
    · rw [List.map_set]
    · rw [List.getElem?_set_ne (fun h => by have := p.inj h; omega)]
      exact hj j (by omega) hjn
  · simp
    obtain ⟨l, y2, rfl, rfl, hll, hj⟩ := hI
    exact ⟨_, _, ⟨rfl, rfl⟩, _, frozen_pure rfl, h⟩
theorem is_of_ok (p : Pm n) (h1 : 1 ≤ n) (hn : n ≤ 60) (h : Q (.v (.bl true) cs)) : got (popped f_is_of [pD p, di n] cs) Q := by
  refine got_popped (got_fn rfl ?_)
  simp [b_is_of]
  refine is_turning_ok p h1 hn ?_
  simp [p.len]
  exact ⟨_, [], ⟨rfl, (List.append_nil _).symm⟩, _, frozen_pure rfl, h⟩
theorem looked_makers_ok (ms : List (Pm n)) (h1 : 1 ≤ n) (hn : n ≤ 60) (hm : ms.length ≤ 200) (h : Q (.v (.lst (ms.map pD)) cs)) : got (popped f_looked_makers [di n, .lst (ms.map pD)] cs) Q := by
  refine got_popped (got_fn rfl ?_)
  have g1 : (1 : Int) ≤ n := by omega
  have g2 : ((n : Int) ≤ 60) := by omega
  have g3 : ¬ ((200 : Int) < ms.length) := by omega
  have g4 : n ≤ 60 := hn
  simp [b_looked_makers]
  refine whole_ok _ ?_
  simp [g1, g2, g3]
  refine ⟨by omega, ?_⟩
  refine got_for (fun i env cs' => ∃ (y2 : Option D), env = [some (di n), some (.lst (ms.map pD)), y2] ∧ cs' = cs) ⟨none, rfl, rfl⟩ (fun _ _ _ _ _ => rfl) (fun i x env cs' hx hI => ?_) fun env cs' hI => ?_
  · obtain ⟨y2, rfl, rfl⟩ := hI
    rw [List.getElem?_map] at hx
    obtain ⟨p, hp, rfl⟩ := Option.map_eq_some_iff.mp hx
    simp
    refine is_of_ok p h1 hn ?_
    simp
  · obtain ⟨y2, rfl, rfl⟩ := hI
    simp
    refine ⟨_, [], ⟨rfl, (List.append_nil _).symm⟩, _, frozen_pure (D.pures_iff.mpr fun x hx => ?_), h⟩
    obtain ⟨i, _, rfl⟩ := List.mem_map.mp hx
    exact pD_pure i
end
end Mi
end
section
set_option linter.all false
namespace Mi
open PySem
structure Lf (n : Nat) where
  key : Nat
  g : Pm n
  ln : Nat
structure Stp (n : Nat) where
  lifts : List (Lf n)
  ms : List (Pm n × Nat)
  lk : Bool := false
inductive Ln where
  | still | told (k : Nat) | beh (a b : Nat) | bck (a : Nat)
structure Chn (n : Nat) where
  lines : List Ln
  st : Nat → Stp n
section
variable {n : Nat}
def Stp.find (s : Stp n) (x : Nat) : Option (Lf n) := s.lifts.find? fun f => decide (f.key = x)
structure SOk (s : Stp n) (l : Nat) : Prop where
  free : s.lk = false
  nodup : (s.lifts.map Lf.key).Nodup
  head : ∃ r, s.lifts = ⟨l, 1, 0⟩ :: r
  lift : ∀ f ∈ s.lifts, Fx l f.g ∧ f.g l = f.key
  mks : ∀ m ∈ s.ms, Fx l m.1
  tree : ∀ f ∈ s.lifts, Gen (fun g => ∃ m ∈ s.ms, m.1 = g) f.g
theorem SOk.key_lt {s : Stp n} {l : Nat} (h : SOk s l) (hl : l < n) {f : Lf n} (hf : f ∈ s.lifts) : f.key < n := by
  rw [← (h.lift f hf).2]
  exact f.g.ap_lt hl
theorem SOk.key_ge {s : Stp n} {l : Nat} (h : SOk s l) {f : Lf n} (hf : f ∈ s.lifts) : l ≤ f.key := by
  rw [← (h.lift f hf).2]
  refine Nat.le_of_not_lt fun hlt => ?_
  have := (h.lift f hf).1 _ hlt
  have := f.g.inj this
  omega
theorem find_of {s : Stp n} (h : (s.lifts.map Lf.key).Nodup) {f : Lf n} (hf : f ∈ s.lifts) : s.find f.key = some f := by
  unfold Stp.find
  generalize s.lifts = L at h hf
  induction L with
  | nil => cases hf
  | cons a r ih =>
    rw [List.map_cons, List.nodup_cons] at h
    rw [List.find?_cons]
    by_cases e : a.key = f.key
    · rw [decide_eq_true e]
      rcases List.mem_cons.mp hf with rfl | hf
      · rfl
      · exact absurd (List.mem_map.mpr ⟨f, hf, rfl⟩) (e ▸ h.1)
    · rw [decide_eq_false e]
      rcases List.mem_cons.mp hf with rfl | hf
      · exact absurd rfl e
      · exact ih h.2 hf
theorem find_mem {s : Stp n} {x : Nat} {f : Lf n} (h : s.find x = some f) : f ∈ s.lifts ∧ f.key = x := by
  unfold Stp.find at h
  exact ⟨List.mem_of_find?_eq_some h, by simpa using List.find?_some h⟩
theorem find_none' {s : Stp n} {x : Nat} : s.find x = none ↔ ∀ f ∈ s.lifts, f.key ≠ x := by
  unfold Stp.find
  rw [List.find?_eq_none]
  simp
theorem SOk.find_self {s : Stp n} {l : Nat} (h : SOk s l) : s.find l = some ⟨l, 1, 0⟩ := by
  obtain ⟨r, e⟩ := h.head
  exact find_of h.nodup (f := ⟨l, 1, 0⟩) (by rw [e]; exact List.mem_cons_self)
namespace Chn
def mks (c : Chn n) (l : Nat) (g : Pm n) : Prop := ∃ m ∈ (c.st l).ms, m.1 = g
def up (c : Chn n) (A : Pm n → Prop) : Nat → Pm n → Prop
  | 0 => Gen A
  | l + 1 => Gen (c.mks l)
def In (c : Chn n) : Nat → Nat → Pm n → Prop
  | 0, _, g => g = 1
  | d + 1, l, g => ∃ f, (c.st l).find (g l) = some f ∧ c.In d (l + 1) (g * f.g⁻¹)
def rest (c : Chn n) : Nat → Nat → Pm n → Nat × Pm n
  | 0, _, g => (n, g)
  | d + 1, l, g => match (c.st l).find (g l) with
    | none => (l, g)
    | some f => c.rest d (l + 1) (if g l = l then g else g * f.g⁻¹)
structure Wf (c : Chn n) (A : Pm n → Prop) : Prop where
  ok : ∀ l, l < n → SOk (c.st l) l
  up : ∀ l, l < n → ∀ m ∈ (c.st l).ms, c.up A l m.1
def Comp (c : Chn n) (l : Nat) : Prop := ∀ j, l ≤ j → j < n → ∀ f ∈ (c.st j).lifts, ∀ m ∈ (c.st j).ms, c.In (n - j) j (f.g * m.1)
structure Ext (c c' : Chn n) : Prop where
  lifts : ∀ j, (c.st j).lifts <+: (c'.st j).lifts
  ms : ∀ j, (c.st j).ms <+: (c'.st j).ms
theorem Ext.refl (c : Chn n) : Ext c c := ⟨fun _ => List.prefix_refl _, fun _ => List.prefix_refl _⟩
theorem Ext.trans {c c1 c2 : Chn n} (h : Ext c c1) (h2 : Ext c1 c2) : Ext c c2 := ⟨fun j => (h.lifts j).trans (h2.lifts j), fun j => (h.ms j).trans (h2.ms j)⟩
theorem In.fx {c : Chn n} (ok : ∀ l, l < n → SOk (c.st l) l) : ∀ {d l : Nat} {g : Pm n}, d + l = n → c.In d l g → Fx l g
  | 0, l, g, e, h => by
    have h : g = 1 := h
    subst h
    exact (Fx.sg _).one
  | d + 1, l, g, e, h => by
    obtain ⟨f, hf, h⟩ := h
    have hm := find_mem hf
    have := In.fx (l := l + 1) ok (by omega) h
    have o := (ok l (by omega)).lift f hm.1
    have : Fx l ((g * f.g⁻¹) * f.g) := (Fx.sg l).mul (this.le (Nat.le_succ l)) o.1
    simpa [Pm.mul_assoc] using this
theorem in_one {c : Chn n} (ok : ∀ l, l < n → SOk (c.st l) l) : ∀ {d l : Nat}, d + l = n → c.In d l 1
  | 0, l, e => rfl
  | d + 1, l, e => ⟨⟨l, 1, 0⟩, by rw [Pm.one_ap]; exact (ok l (by omega)).find_self, by simpa using in_one ok (by omega)⟩
theorem rest_in {c : Chn n} (ok : ∀ l, l < n → SOk (c.st l) l) : ∀ {d l : Nat} {g : Pm n}, d + l = n → Fx l g → ((c.rest d l g).1 = n ∧ (c.rest d l g).2 = 1 ∧ c.In d l g) ∨ ((c.rest d l g).1 < n ∧ ¬ c.In d l g)
  | 0, l, g, e, h => by
    have hl : l = n := by omega
    subst hl
    have : g = 1 := h.all
    exact .inl ⟨rfl, this, this⟩
  | d + 1, l, g, e, h => by
    have o := ok l (by omega)
    unfold rest In
    cases hf : (c.st l).find (g l) with
    | none =>
      refine .inr ⟨by dsimp only; omega, ?_⟩
      rintro ⟨f, hf', _⟩
      cases hf'
    | some f =>
      dsimp only
      have hm := find_mem hf
      have fl := o.lift f hm.1
      have e1 : (if g l = l then g else g * f.g⁻¹) = g * f.g⁻¹ := by
        split
        · rename_i e1
          rw [e1, o.find_self] at hf
          cases hf
          simp
        · rfl
      rw [e1]
      have fx : Fx (l + 1) (g * f.g⁻¹) := by
        refine Fx.succ ((Fx.sg l).mul h ((Fx.sg l).inv fl.1)) ?_
        rw [Pm.mul_ap, Pm.inv_ap_eq, fl.2, hm.2]
      rcases rest_in (d := d) ok (by omega) fx with ⟨a, b, i⟩ | ⟨a, b⟩
      · exact .inl ⟨a, b, f, rfl, i⟩
      · refine .inr ⟨a, ?_⟩
        rintro ⟨f', hf', i⟩
        cases hf'
        exact b i
theorem In.mul_lift {c : Chn n} {d l : Nat} (ok : ∀ l, l < n → SOk (c.st l) l) (e : d + 1 + l = n) {k : Pm n} {f : Lf n} (hk : c.In d (l + 1) k) (hf : f ∈ (c.st l).lifts) : c.In (d + 1) l (k * f.g) := by
  have o := ok l (by omega)
  have kf := In.fx ok (by omega) hk
  refine ⟨f, ?_, ?_⟩
  · rw [Pm.mul_ap, kf l (by omega), (o.lift f hf).2]
    exact find_of o.nodup hf
  · simpa [Pm.mul_assoc] using hk
theorem In.split {c : Chn n} {d l : Nat} {g : Pm n} (h : c.In (d + 1) l g) : ∃ k f, c.In d (l + 1) k ∧ f ∈ (c.st l).lifts ∧ g = k * f.g := by
  obtain ⟨f, hf, h⟩ := h
  exact ⟨_, f, h, (find_mem hf).1, by simp [Pm.mul_assoc]⟩
theorem in_gen {c : Chn n} {A : Pm n → Prop} (W : Wf c A) {l : Nat} (C : Comp c l) : ∀ (d j : Nat), d + 1 + j = n → l ≤ j → ∀ g, c.In (d + 1) j g ↔ Gen (c.mks j) g
  | d, j, e, hl, g => by
    have ok := W.ok
    have o := ok j (by omega)
    have sub : ∀ k, c.In d (j + 1) k → Gen (c.mks j) k := fun k hk => by
      cases d with
      | zero =>
        have hk : k = 1 := hk
        subst hk
        exact .one
      | succ d =>
        have := (in_gen W C d (j + 1) (by omega) (by omega) k).mp hk
        exact this.mono' fun a ⟨m, hm, e⟩ => e ▸ W.up (j + 1) (by omega) m hm
    have sg : ∀ a b, c.In d (j + 1) a → c.In d (j + 1) b → c.In d (j + 1) (a * b) := fun a b ha hb => by
      cases d with
      | zero =>
        have ha : a = 1 := ha
        have hb : b = 1 := hb
        subst ha hb
        show (1 : Pm n) * 1 = 1
        simp
      | succ d =>
        rw [in_gen W C d (j + 1) (by omega) (by omega)] at ha hb ⊢
        exact ha.mul hb
    constructor
    · intro h
      obtain ⟨k, f, hk, hf, rfl⟩ := h.split
      exact (sub k hk).mul (o.tree f hf)
    · intro h
      have := h.right (Q := fun q => c.In (d + 1) j q) (fun q m hq hm => ?_) 1 (in_one ok (by omega))
      · simpa using this
      · obtain ⟨k, f, hk, hf, rfl⟩ := hq.split
        obtain ⟨m', hm', rfl⟩ := hm
        have := C j hl (by omega) f hf m' hm'
        rw [show n - j = d + 1 by omega] at this
        obtain ⟨k', f', hk', hf', e'⟩ := this.split
        rw [Pm.mul_assoc, e', ← Pm.mul_assoc]
        exact In.mul_lift ok (by omega) (sg _ _ hk hk') hf'
theorem find_ext {c c' : Chn n} (E : Ext c c') {l x : Nat} {f : Lf n} (h : (c.st l).find x = some f) : (c'.st l).find x = some f := by
  obtain ⟨r, e⟩ := E.lifts l
  unfold Stp.find at h ⊢
  rw [← e, List.find?_append, h]
  rfl
theorem In.mono {c c' : Chn n} (E : Ext c c') : ∀ {d l : Nat} {g : Pm n}, c.In d l g → c'.In d l g
  | 0, _, _, h => h
  | d + 1, l, g, ⟨f, hf, h⟩ => ⟨f, find_ext E hf, In.mono E h⟩
def cnt (c : Chn n) : Nat → Nat → Nat
  | 0, _ => 0
  | d + 1, l => (c.st l).lifts.length + c.cnt d (l + 1)
theorem cnt_mono {c c' : Chn n} (E : Ext c c') : ∀ d l, c.cnt d l ≤ c'.cnt d l
  | 0, _ => Nat.le_refl _
  | d + 1, l => by
    have := cnt_mono E d (l + 1)
    have := (E.lifts l).length_le
    simp only [cnt]
    omega
theorem In.same {c c' : Chn n} (E : Ext c c') : ∀ {d l : Nat} {g : Pm n}, c'.cnt d l = c.cnt d l → c'.In d l g → c.In d l g
  | 0, _, _, _, h => h
  | d + 1, l, g, e, ⟨f, hf, h⟩ => by
    have m := cnt_mono E d (l + 1)
    have p := (E.lifts l).length_le
    simp only [cnt] at e
    have eq := (E.lifts l).eq_of_length (by omega)
    refine ⟨f, ?_, In.same E (by omega) h⟩
    unfold Stp.find at hf ⊢
    rw [eq]
    exact hf
def Bd (c : Chn n) (l : Nat) : Prop := ∀ j, l ≤ j → j < n → (c.st j).ms.length + (n - j) ≤ c.cnt (n - j) j
theorem _root_.Mi.SOk.len_le {s : Stp n} {l : Nat} (h : SOk s l) (hl : l < n) : s.lifts.length ≤ n := by
  have := nodup_lt h.nodup (n := n) fun x hx => by
    obtain ⟨f, hf, rfl⟩ := List.mem_map.mp hx
    exact h.key_lt hl hf
  rwa [List.length_map] at this
theorem cnt_le {c : Chn n} (ok : ∀ l, l < n → SOk (c.st l) l) : ∀ d l, d + l = n → c.cnt d l ≤ n * d
  | 0, _, _ => Nat.zero_le _
  | d + 1, l, e => by
    have := cnt_le ok d (l + 1) (by omega)
    have := (ok l (by omega)).len_le (by omega)
    simp only [cnt]
    have e2 : n * (d + 1) = n * d + n := Nat.mul_succ n d
    rw [e2]
    omega
structure Grow (c c1 : Chn n) (l : Nat) (g : Pm n) (T : List (Pm n)) : Prop where
  same : ∀ j, j ≠ l → c1.st j = c.st j
  lifts : (c.st l).lifts <+: (c1.st l).lifts
  ms : ∃ ln, (c1.st l).ms = (c.st l).ms ++ [(g, ln)]
  ok : SOk (c1.st l) l
  fxT : ∀ t ∈ T, Fx (l + 1) t ∧ Gen (c1.mks l) t
  pair : ∀ f ∈ (c1.st l).lifts, ∀ m ∈ (c1.st l).ms, (f ∈ (c.st l).lifts ∧ m ∈ (c.st l).ms) ∨ ∃ f' ∈ (c1.st l).lifts, f.g * m.1 = f'.g ∨ f.g * m.1 * f'.g⁻¹ ∈ T
theorem Grow.ext {c c1 : Chn n} {l : Nat} {g : Pm n} {T} (G : Grow c c1 l g T) : Ext c c1 := by
  obtain ⟨ln, e⟩ := G.ms
  refine ⟨fun j => ?_, fun j => ?_⟩
  · by_cases h : j = l
    · rw [h]; exact G.lifts
    · rw [G.same j h]; exact List.prefix_refl _
  · by_cases h : j = l
    · rw [h, e]; exact List.prefix_append _ _
    · rw [G.same j h]; exact List.prefix_refl _
theorem In.congr {c c1 : Chn n} : ∀ {d l : Nat}, (∀ j, l ≤ j → c1.st j = c.st j) → ∀ {g : Pm n}, c.In d l g ↔ c1.In d l g
  | 0, l, h, g => Iff.rfl
  | d + 1, l, h, g => by
    simp only [In]
    rw [h l (Nat.le_refl _)]
    exact exists_congr fun f => and_congr_right fun _ => In.congr fun j hj => h j (by omega)
theorem cnt_congr {c c1 : Chn n} : ∀ {d l : Nat}, (∀ j, l ≤ j → c1.st j = c.st j) → c1.cnt d l = c.cnt d l
  | 0, l, h => rfl
  | d + 1, l, h => by
    simp only [cnt]
    rw [h l (Nat.le_refl _), cnt_congr fun j hj => h j (by omega)]
theorem Grow.wf {c c1 : Chn n} {A : Pm n → Prop} {l : Nat} {g : Pm n} {T} (G : Grow c c1 l g T) (W : Wf c A) (hl : l < n) (hg : c.up A l g) : Wf c1 A := by
  obtain ⟨ln, e⟩ := G.ms
  have mm : ∀ j x, c.mks j x → c1.mks j x := fun j x ⟨m, hm, e⟩ => ⟨m, (G.ext.ms j).subset hm, e⟩
  have uu : ∀ j x, c.up A j x → c1.up A j x := fun j x h => by
    cases j with
    | zero => exact h
    | succ j => exact Gen.mono (mm j) h
  refine ⟨fun j hj => ?_, fun j hj m hm => ?_⟩
  · by_cases h : j = l
    · rw [h]; exact G.ok
    · rw [G.same j h]; exact W.ok j hj
  · by_cases h : j = l
    · subst h
      rw [e] at hm
      rcases List.mem_append.mp hm with hm | hm
      · exact uu _ _ (W.up j hj m hm)
      · rw [List.mem_singleton] at hm
        subst hm
        exact uu _ _ hg
    · rw [G.same j h] at hm
      exact uu _ _ (W.up j hj m hm)
theorem Grow.comp {c c1 : Chn n} {l : Nat} {g : Pm n} {T} (G : Grow c c1 l g T) (C : Comp c l) : Comp c1 (l + 1) := fun j hj hjn f hf m hm => by
  rw [G.same j (by omega)] at hf hm
  exact In.mono G.ext (C j (by omega) hjn f hf m hm)
theorem Grow.bd {c c1 : Chn n} {l : Nat} {g : Pm n} {T} (G : Grow c c1 l g T) (B : Bd c l) : Bd c1 (l + 1) := fun j hj hjn => by
  have := B j (by omega) hjn
  rw [G.same j (by omega), cnt_congr (fun k hk => G.same k (by omega))]
  exact this
theorem Grow.done {c c1 c2 : Chn n} {A : Pm n → Prop} {l : Nat} {g : Pm n} {T} (G : Grow c c1 l g T) (W2 : Wf c2 A) (hl : l < n) (C : Comp c l) (B : Bd c l) (hg : ¬ c.In (n - l) l g)
    (E : Ext c1 c2) (hs : ∀ j, j ≤ l → c2.st j = c1.st j) (C2 : Comp c2 (l + 1)) (B2 : Bd c2 (l + 1)) (hT : ∀ t ∈ T, c2.In (n - (l + 1)) (l + 1) t) : Comp c2 l ∧ Bd c2 l ∧ c2.In (n - l) l g := by
  have e1 := hs l (Nat.le_refl _)
  obtain ⟨ln, em⟩ := G.ms
  have nl : n - l = (n - (l + 1)) + 1 := by omega
  have cl : ∀ f ∈ (c2.st l).lifts, ∀ m ∈ (c2.st l).ms, c2.In (n - l) l (f.g * m.1) := fun f hf m hm => by
    rw [e1] at hf hm
    rcases G.pair f hf m hm with ⟨h1, h2⟩ | ⟨f', hf', h | h⟩
    · exact In.mono (G.ext.trans E) (C l (Nat.le_refl _) hl f h1 m h2)
    · rw [h, nl, show f'.g = 1 * f'.g by simp]
      exact In.mul_lift W2.ok (by omega) (in_one W2.ok (by omega)) (by rw [e1]; exact hf')
    · rw [nl, show f.g * m.1 = (f.g * m.1 * f'.g⁻¹) * f'.g by simp [Pm.mul_assoc]]
      exact In.mul_lift W2.ok (by omega) (hT _ h) (by rw [e1]; exact hf')
  have hg2 : c2.In (n - l) l g := by
    obtain ⟨r, er⟩ := (W2.ok l hl).head
    have := cl ⟨l, 1, 0⟩ (by rw [er]; exact List.mem_cons_self) (g, ln) (by rw [e1, em]; simp)
    simpa using this
  refine ⟨fun j hj hjn f hf m hm => ?_, fun j hj hjn => ?_, hg2⟩
  · by_cases h : j = l
    · subst h
      exact cl f hf m hm
    · exact C2 j (by omega) hjn f hf m hm
  · by_cases h : j = l
    · subst h
      have b := B j (Nat.le_refl _) hjn
      have lt : c.cnt (n - j) j ≠ c2.cnt (n - j) j := fun e => hg (In.same (G.ext.trans E) e.symm hg2)
      have le := cnt_mono (G.ext.trans E) (n - j) j
      rw [e1, em, List.length_append, List.length_singleton]
      omega
    · exact B2 j (by omega) hjn
theorem Comp.le {c : Chn n} {l k : Nat} (h : Comp c l) (hk : l ≤ k) : Comp c k := fun j hj => h j (by omega)
theorem Bd.le {c : Chn n} {l k : Nat} (h : Bd c l) (hk : l ≤ k) : Bd c k := fun j hj => h j (by omega)
end Chn
end
end Mi
end
section
set_option linter.all false
set_option maxHeartbeats 1000000
namespace Mi
open PySem tb
def Ln.D : Ln → D
  | .still => .tup [.str "still"]
  | .told k => .tup [.str "told", di k]
  | .beh a b => .tup [.str "behind", di a, di b]
  | .bck a => .tup [.str "back", di a]
section
variable {n : Nat}
def liftD (f : Lf n) : D := .tup [pD f.g, di f.ln]
def makD (m : Pm n × Nat) : D := .tup [pD m.1, di m.2]
def Stp.keys (s : Stp n) : List D := s.lifts.map fun f => di f.key
def Stp.dc (s : Stp n) : Cell := if s.lk = true then .lck s.keys (s.lifts.map liftD) else .dct s.keys (s.lifts.map liftD)
def Chn.upd (c : Chn n) (i : Nat) (s : Stp n) : Chn n := { c with st := fun j => if j = i then s else c.st j }
def stC (n k : Nat) : Cell := .obj 1 [di n, .cell (k + 1), .lst ((List.range n).map fun i => .cell (k + 2 + 3 * i))]
def blk (c : Chn n) (k j : Nat) : Option Cell :=
  if j < k then none
  else if j = k then some (stC n k)
  else if j = k + 1 then some (.lst (c.lines.map Ln.D))
  else if (j - k - 2) / 3 < n then
    (if (j - k - 2) % 3 = 0 then some (.obj 0 [di ((j - k - 2) / 3), .cell (j + 1), .cell (j + 2)])
    else if (j - k - 2) % 3 = 1 then some (c.st ((j - k - 2) / 3)).dc
    else some (.lst ((c.st ((j - k - 2) / 3)).ms.map makD)))
  else none
def wr (cs : Cs) (k : Nat) (c : Chn n) : Cs := cs.mapIdx fun j x => (blk c k j).getD x
theorem wr_len (cs : Cs) (k : Nat) (c : Chn n) : (wr cs k c).length = cs.length := by simp [wr]
theorem wr_get (cs : Cs) (k : Nat) (c : Chn n) (j : Nat) : (wr cs k c)[j]? = cs[j]?.map fun x => (blk c k j).getD x := by simp [wr]
theorem wr_in {cs own : Cs} {k j : Nat} {c : Chn n} {x : Cell} (hk : k + 2 + 3 * n ≤ cs.length) (h : blk c k j = some x) : (wr cs k c ++ own)[j]? = some x := by
  have hj : j < cs.length := by
    unfold blk at h
    split at h
    · cases h
    · split at h
      · omega
      · split at h
        · omega
        · split at h
          · omega
          · cases h
  rw [List.getElem?_append_left (by rw [wr_len]; exact hj), wr_get, List.getElem?_eq_getElem hj, h]
  rfl
theorem blk_0 (c : Chn n) (k : Nat) : blk c k k = some (stC n k) := by
  simp [blk]
theorem blk_1 (c : Chn n) (k : Nat) : blk c k (k + 1) = some (.lst (c.lines.map Ln.D)) := by
  simp [blk]
theorem blk_s {c : Chn n} {k i : Nat} (h : i < n) : blk c k (k + 2 + 3 * i) = some (.obj 0 [di i, .cell (k + 2 + 3 * i + 1), .cell (k + 2 + 3 * i + 2)]) := by
  have e1 : ¬ (k + 2 + 3 * i < k) := by omega
  have e2 : ¬ (k + 2 + 3 * i = k) := by omega
  have e3 : ¬ (k + 2 + 3 * i = k + 1) := by omega
  have e4 : (k + 2 + 3 * i - k - 2) / 3 = i := by omega
  have e5 : (k + 2 + 3 * i - k - 2) % 3 = 0 := by omega
  unfold blk
  rw [if_neg e1, if_neg e2, if_neg e3, e4, e5, if_pos h, if_pos rfl]
theorem blk_d {c : Chn n} {k i : Nat} (h : i < n) : blk c k (k + 2 + 3 * i + 1) = some (c.st i).dc := by
  have e1 : ¬ (k + 2 + 3 * i + 1 < k) := by omega
  have e2 : ¬ (k + 2 + 3 * i + 1 = k) := by omega
  have e3 : ¬ (k + 2 + 3 * i + 1 = k + 1) := by omega
  have e4 : (k + 2 + 3 * i + 1 - k - 2) / 3 = i := by omega
  have e5 : (k + 2 + 3 * i + 1 - k - 2) % 3 = 1 := by omega
  unfold blk
  rw [if_neg e1, if_neg e2, if_neg e3, e4, e5, if_pos h, if_neg (by decide), if_pos rfl]
theorem blk_m {c : Chn n} {k i : Nat} (h : i < n) : blk c k (k + 2 + 3 * i + 2) = some (.lst ((c.st i).ms.map makD)) := by
  have e1 : ¬ (k + 2 + 3 * i + 2 < k) := by omega
  have e2 : ¬ (k + 2 + 3 * i + 2 = k) := by omega
  have e3 : ¬ (k + 2 + 3 * i + 2 = k + 1) := by omega
  have e4 : (k + 2 + 3 * i + 2 - k - 2) / 3 = i := by omega
  have e5 : (k + 2 + 3 * i + 2 - k - 2) % 3 = 2 := by omega
  unfold blk
  rw [if_neg e1, if_neg e2, if_neg e3, e4, e5, if_pos h, if_neg (by decide), if_neg (by decide)]
section
variable {cs own : Cs} {k i : Nat} {c : Chn n}
theorem wr_0 (hk : k + 2 + 3 * n ≤ cs.length) : (wr cs k c ++ own)[k]? = some (stC n k) := wr_in hk (blk_0 c k)
theorem wr_1 (hk : k + 2 + 3 * n ≤ cs.length) : (wr cs k c ++ own)[k + 1]? = some (.lst (c.lines.map Ln.D)) := wr_in hk (blk_1 c k)
theorem wr_s (hk : k + 2 + 3 * n ≤ cs.length) (h : i < n) : (wr cs k c ++ own)[k + 2 + 3 * i]? = some (.obj 0 [di i, .cell (k + 2 + 3 * i + 1), .cell (k + 2 + 3 * i + 2)]) := wr_in hk (blk_s h)
theorem wr_d (hk : k + 2 + 3 * n ≤ cs.length) (h : i < n) : (wr cs k c ++ own)[k + 2 + 3 * i + 1]? = some (c.st i).dc := wr_in hk (blk_d h)
theorem wr_m (hk : k + 2 + 3 * n ≤ cs.length) (h : i < n) : (wr cs k c ++ own)[k + 2 + 3 * i + 2]? = some (.lst ((c.st i).ms.map makD)) := wr_in hk (blk_m h)
theorem wr_set {c' : Chn n} {j : Nat} {x : Cell} (hk : k + 2 + 3 * n ≤ cs.length) (hj : blk c' k j = some x) (ho : ∀ i, i ≠ j → blk c' k i = blk c k i) : (wr cs k c ++ own).set j x = wr cs k c' ++ own := by
  have hl : j < cs.length := by
    have := wr_in (own := []) hk hj
    have := (List.getElem?_eq_some_iff.mp this).1
    rwa [List.append_nil, wr_len] at this
  rw [List.set_append_left _ _ (by rw [wr_len]; exact hl)]
  congr 1
  refine List.ext_getElem? fun i => ?_
  by_cases e : j = i
  · subst e
    rw [List.getElem?_set_self (by rw [wr_len]; exact hl), wr_get, List.getElem?_eq_getElem hl, hj]
    rfl
  · rw [List.getElem?_set_ne e, wr_get, wr_get, ho i (Ne.symm e)]
theorem set_lines (hk : k + 2 + 3 * n ≤ cs.length) (ls : List Ln) : (wr cs k c ++ own).set (k + 1) (.lst (ls.map Ln.D)) = wr cs k { c with lines := ls } ++ own := wr_set hk (blk_1 _ k) fun i hi => by
  unfold blk
  simp only [hi, if_false]
theorem set_dc (hk : k + 2 + 3 * n ≤ cs.length) (h : i < n) {s : Stp n} (hs : s.ms = (c.st i).ms) : (wr cs k c ++ own).set (k + 2 + 3 * i + 1) s.dc = wr cs k (c.upd i s) ++ own := by
  refine wr_set hk ?_ fun j hj => ?_
  · rw [blk_d h]
    simp [Chn.upd]
  · unfold blk
    by_cases e1 : j < k
    · simp [e1]
    · by_cases e2 : j = k
      · simp [e2]
      · by_cases e3 : j = k + 1
        · simp [e3, Chn.upd]
        · by_cases e : (j - k - 2) / 3 = i
          · have : ¬ (j - k - 2) % 3 = 1 := by omega
            simp [e1, e2, e3, e, this, Chn.upd, hs]
          · simp [e1, e2, e3, e, Chn.upd]
theorem set_ms (hk : k + 2 + 3 * n ≤ cs.length) (h : i < n) {s : Stp n} (hs : s.dc = (c.st i).dc) : (wr cs k c ++ own).set (k + 2 + 3 * i + 2) (.lst (s.ms.map makD)) = wr cs k (c.upd i s) ++ own := by
  refine wr_set hk ?_ fun j hj => ?_
  · rw [blk_m h]
    simp [Chn.upd]
  · unfold blk
    by_cases e1 : j < k
    · simp [e1]
    · by_cases e2 : j = k
      · simp [e2]
      · by_cases e3 : j = k + 1
        · simp [e3, Chn.upd]
        · by_cases e : (j - k - 2) / 3 = i
          · by_cases e4 : (j - k - 2) % 3 = 0
            · simp [e1, e2, e3, e, e4]
            · by_cases e5 : (j - k - 2) % 3 = 1
              · simp [e1, e2, e3, e, e5, Chn.upd, hs]
              · omega
          · simp [e1, e2, e3, e, Chn.upd]
theorem blk_none {c c' : Chn n} {j : Nat} (h : blk c k j = none) : blk c' k j = none := by
  unfold blk at h ⊢
  repeat' split at h
  all_goals first | cases h | skip
  · simp [*]
  · simp [*]
theorem liftD_pure (f : Lf n) : (liftD f).pure = true := by simp [liftD, D.pure, D.pures, pures_dis]
theorem makD_pure (f : Pm n × Nat) : (makD f).pure = true := by simp [makD, D.pure, D.pures, pures_dis]
theorem Ln.pure (l : Ln) : l.D.pure = true := by cases l <;> rfl
theorem unders_iff {L : Nat} {xs : List D} : D.unders L xs = true ↔ ∀ x ∈ xs, x.under L = true := by
  induction xs with
  | nil => simp [D.unders]
  | cons x xs ih => simp [D.unders, ih]
theorem blk_under {j L : Nat} {x : Cell} (hk : k + 2 + 3 * n ≤ L) (h : blk c k j = some x) : x.under L = true := by
  unfold blk at h
  repeat' split at h
  all_goals first | cases h | skip
  · simp only [stC, Cell.under, D.unders, D.under, Bool.and_eq_true, decide_eq_true_eq, unders_iff]
    refine ⟨trivial, by omega, fun x hx => ?_, trivial⟩
    obtain ⟨i, hi, rfl⟩ := List.mem_map.mp hx
    have := List.mem_range.mp hi
    simp only [D.under, decide_eq_true_eq]
    omega
  · refine unders_iff.mpr fun x hx => ?_
    obtain ⟨i, hi, rfl⟩ := List.mem_map.mp hx
    exact D.under_pure _ _ i.pure
  · simp only [Cell.under, D.unders, D.under, Bool.and_eq_true, decide_eq_true_eq]
    have : j + 2 < L := by omega
    exact ⟨trivial, by omega, by omega, trivial⟩
  · unfold Stp.dc
    have a : D.unders L (Stp.keys (c.st ((j - k - 2) / 3))) = true := unders_iff.mpr fun x hx => by
      obtain ⟨i, hi, rfl⟩ := List.mem_map.mp hx
      rfl
    have b : D.unders L (List.map liftD (c.st ((j - k - 2) / 3)).lifts) = true := unders_iff.mpr fun x hx => by
      obtain ⟨i, hi, rfl⟩ := List.mem_map.mp hx
      exact D.under_pure _ _ (liftD_pure i)
    split <;> simp [Cell.under, a, b]
  · refine unders_iff.mpr fun x hx => ?_
    obtain ⟨i, hi, rfl⟩ := List.mem_map.mp hx
    exact D.under_pure _ _ (makD_pure i)
theorem wr_pop {c c' : Chn n} (hk : k + 2 + 3 * n ≤ cs.length) (own : Cs) (j : Nat) : (wr cs k c' ++ own)[j]? = (wr cs k c ++ own)[j]? ∨ ∃ x, (wr cs k c' ++ own)[j]? = some x ∧ x.under (wr cs k c ++ own).length = true := by
  cases h : blk c' k j with
  | some x =>
    exact .inr ⟨x, wr_in hk h, blk_under (by rw [List.length_append, wr_len]; omega) h⟩
  | none =>
    left
    by_cases hj : j < cs.length
    · rw [List.getElem?_append_left (by rw [wr_len]; exact hj), List.getElem?_append_left (by rw [wr_len]; exact hj), wr_get, wr_get, h, blk_none h]
    · rw [List.getElem?_append_right (by rw [wr_len]; omega), List.getElem?_append_right (by rw [wr_len]; omega), wr_len, wr_len]
theorem got_poppedC {f : Fn} {xs : List D} {Q : R D → Prop} (hk : k + 2 + 3 * n ≤ cs.length) (h : got (f xs (wr cs k c ++ own)) fun r => ∃ (d : D) (own' : Cs) (c' : Chn n) (d' : D), r = .v d (wr cs k c' ++ own ++ own') ∧ frozen (cs.length + own.length) (wr cs k c' ++ own ++ own') d = some d' ∧ Q (.v d' (wr cs k c' ++ own))) : got (popped f xs (wr cs k c ++ own)) Q := by
  refine got_poppedW (h.mono fun r hr => ?_)
  obtain ⟨d, own', c', d', rfl, hf, q⟩ := hr
  refine ⟨d, own', wr cs k c' ++ own, d', rfl, by simp [wr_len], fun j _ => wr_pop hk own j, ?_, q⟩
  rw [List.length_append, wr_len]
  exact hf
@[simp] theorem dctC_dc (s : Stp n) : dctC s.dc = some (s.keys, s.lifts.map liftD) := by
  unfold Stp.dc
  split <;> rfl
theorem dctU_dc {s : Stp n} (h : s.lk = false) : dctU s.dc = some (s.keys, s.lifts.map liftD) := by
  unfold Stp.dc
  rw [h]
  rfl
theorem find_lifts (s : Stp n) (x : Nat) : find (di x) s.keys (s.lifts.map liftD) = (s.find x).map liftD := by
  unfold Stp.keys Stp.find
  induction s.lifts with
  | nil => rfl
  | cons f r ih =>
    rw [List.map_cons, List.map_cons, List.find?_cons]
    by_cases e : f.key = x
    · rw [decide_eq_true e]
      unfold find
      rw [if_pos (by rw [e])]
      rfl
    · rw [decide_eq_false e]
      unfold find
      rw [if_neg (fun h => e (di_inj.mp h)), ih]
theorem cut_from {α : Type} {xs : List α} {l : Nat} (h : l ≤ xs.length) : cut xs (some (l : Int)) none = xs.drop l := by
  unfold cut sIx
  have e : ¬ ((l : Int) < 0) := by omega
  simp only [e, if_false, Int.toNat_natCast]
  rw [Nat.min_eq_left h]
  exact List.take_of_length_le (by rw [List.length_drop]; exact Nat.le_refl _)
theorem noted_ok {Q : R D → Prop} (hk : k + 2 + 3 * n ≤ cs.length) (x : Ln) (hs : c.lines.length < 16777216) (h : Q (.v (di c.lines.length) (wr cs k { c with lines := c.lines ++ [x] } ++ own))) : got (popped f_Chain_noted [.cell k, x.D] (wr cs k c ++ own)) Q := by
  refine got_poppedC hk (got_fn rfl ?_)
  have e := set_lines (own := own) (c := c) hk (c.lines ++ [x])
  rw [List.map_append] at e
  simp only [List.map_cons, List.map_nil] at e
  simp [b_Chain_noted, wr_0 hk, wr_1 hk, stC, hs, e]
  refine ⟨_, [], _, ⟨rfl, by rw [List.append_nil]⟩, _, frozen_pure rfl, ?_⟩
  exact h
theorem rest_ok {Q : R D → Prop} (hk : k + 2 + 3 * n ≤ cs.length) (hn : n ≤ 60) (c : Chn n) (g : Pm n) {l : Nat} (hl : l ≤ n) (h : Q (.v (.tup [di (c.rest (n - l) l g).1, pD (c.rest (n - l) l g).2]) (wr cs k c ++ own))) : got (popped f_Chain_rest [.cell k, pD g, di l] (wr cs k c ++ own)) Q := by
  refine got_popped (got_fn rfl ?_)
  simp [b_Chain_rest, wr_0 hk, stC]
  rw [cut_from (by rw [List.length_map, List.length_range]; exact hl)]
  refine got_for (fun i env cs' => ∃ (g' : Pm n) (y3 y4 : Option D), env = [some (.cell k), some (pD g'), some (di l), y3, y4] ∧ cs' = wr cs k c ++ own ∧ c.rest (n - l) l g = c.rest (n - l - i) (l + i) g')
    ⟨g, none, none, rfl, rfl, rfl⟩ (fun _ _ _ _ _ => rfl) (fun i x env cs' hx hI => ?_) fun env cs' hI => ?_
  · obtain ⟨g', y3, y4, rfl, rfl, e⟩ := hI
    rw [List.getElem?_drop, List.getElem?_map] at hx
    obtain ⟨j, hj, rfl⟩ := Option.map_eq_some_iff.mp hx
    have hjn : l + i < n := by have := (List.getElem?_eq_some_iff.mp hj).1; rwa [List.length_range] at this
    rw [List.getElem?_range hjn] at hj
    cases hj
    obtain ⟨d, hd⟩ : ∃ d, n - l - i = d + 1 := ⟨n - l - i - 1, by omega⟩
    rw [hd, Chn.rest] at e
    have hd2 : n - l - (i + 1) = d := by omega
    have hm2 : l + (i + 1) = l + i + 1 := by omega
    rw [hd2, hm2]
    generalize l + i = m at *
    simp [wr_s hk hjn, wr_d hk hjn, pD_at g' hjn, find_lifts]
    cases hf : (c.st m).find (g' m) with
    | none =>
      rw [hf] at e
      simp
      rw [e] at h
      refine ⟨_, [], ⟨rfl, by simp⟩, _, frozen_pure ?_, h⟩
      simp [D.pure, D.pures, pures_dis]
    | some f =>
      rw [hf] at e
      dsimp only at e
      simp
      by_cases e1 : g' m = m
      · rw [if_pos e1] at e
        simp [e1]
        exact ⟨g', rfl, e⟩
      · rw [if_neg e1] at e
        have e1' : ¬ ((g' m : Int) = (m : Int)) := by omega
        simp [e1', liftD, find_lifts, hf, wr_s hk hjn, wr_d hk hjn]
        refine back_ok _ hn ?_
        simp
        refine behind_ok _ _ hn ?_
        simp
        exact ⟨_, rfl, e⟩
  · obtain ⟨g', y3, y4, rfl, rfl, e⟩ := hI
    rw [List.length_drop, List.length_map, List.length_range, Nat.sub_self] at e
    simp [wr_0 hk, stC]
    rw [e, Chn.rest] at h
    refine ⟨_, [], ⟨rfl, by simp⟩, _, frozen_pure ?_, h⟩
    simp [D.pure, D.pures, pures_dis]
end
end
end Mi
end
section
set_option linter.all false
set_option maxHeartbeats 2000000
namespace Mi
open PySem tb
inductive Lv {n : Nat} (A : List (Pm n)) (L : List Ln) : Nat → Pm n → Prop where
  | still {i} : L[i]? = some .still → Lv A L i 1
  | told {i k p} : L[i]? = some (.told k) → A[k]? = some p → Lv A L i p
  | beh {i a b p q} : L[i]? = some (.beh a b) → a < i → b < i → Lv A L a p → Lv A L b q → Lv A L i (p * q)
  | bck {i a p} : L[i]? = some (.bck a) → a < i → Lv A L a p → Lv A L i p⁻¹
section
variable {n : Nat} {A : List (Pm n)} {B : Option (List (Pm n))} {L : List Ln} {p q : Pm n} {i a b : Nat}
theorem get_app {α : Type} {xs : List α} {i : Nat} {x : α} (h : xs[i]? = some x) (ys : List α) : (xs ++ ys)[i]? = some x := by
  rw [List.getElem?_append_left (List.getElem?_eq_some_iff.mp h).1]
  exact h
theorem Lv.lt (h : Lv A L i p) : i < L.length := by
  match h with
  | .still h => exact (List.getElem?_eq_some_iff.mp h).1
  | .told h _ => exact (List.getElem?_eq_some_iff.mp h).1
  | .beh h _ _ _ _ => exact (List.getElem?_eq_some_iff.mp h).1
  | .bck h _ _ => exact (List.getElem?_eq_some_iff.mp h).1
theorem Lv.app (h : Lv A L i p) (M : List Ln) : Lv A (L ++ M) i p := by
  induction h with
  | still h => exact .still (get_app h _)
  | told h e => exact .told (get_app h _) e
  | beh h ha hb _ _ ia ib => exact .beh (get_app h _) ha hb ia ib
  | bck h ha _ ia => exact .bck (get_app h _) ha ia
def Lw (B : Option (List (Pm n))) (L : List Ln) (i : Nat) (p : Pm n) : Prop := match B with
  | none => True
  | some A => Lv A L i p
def Al (B : Option (List (Pm n))) (L : List Ln) : Prop := match B with
  | none => True
  | some A => ∀ i, i < L.length → ∃ p, Lv A L i p
theorem Lw.app (h : Lw B L i p) (M : List Ln) : Lw B (L ++ M) i p := by
  cases B with
  | none => trivial
  | some A => exact Lv.app h M
theorem last_get {α : Type} (xs : List α) (x : α) : (xs ++ [x])[xs.length]? = some x := by simp
theorem Al.one {x : Ln} (h : Al B L) (h2 : Lw B (L ++ [x]) L.length p) : Al B (L ++ [x]) := by
  cases B with
  | none => trivial
  | some A =>
    intro i hi
    rw [List.length_append, List.length_singleton] at hi
    by_cases e : i = L.length
    · subst e
      exact ⟨p, h2⟩
    · obtain ⟨q, hq⟩ := h i (by omega)
      exact ⟨q, hq.app _⟩
theorem Lw.beh (ha : Lw B L a p) (hb : Lw B L b q) : Lw B (L ++ [.beh a b]) L.length (p * q) := by
  cases B with
  | none => trivial
  | some A => exact .beh (last_get _ _) (Lv.lt ha) (Lv.lt hb) (Lv.app ha _) (Lv.app hb _)
theorem Lw.bck (ha : Lw B L a p) : Lw B (L ++ [.bck a]) L.length p⁻¹ := by
  cases B with
  | none => trivial
  | some A => exact .bck (last_get _ _) (Lv.lt ha) (Lv.app ha _)
structure Lok (B : Option (List (Pm n))) (c : Chn n) : Prop where
  al : Al B c.lines
  lifts : ∀ l, l < n → ∀ f ∈ (c.st l).lifts, Lw B c.lines f.ln f.g
  ms : ∀ l, l < n → ∀ m ∈ (c.st l).ms, Lw B c.lines m.2 m.1
inductive Md where
  | one (a : Nat) | three (a b e : Nat)
def Md.D : Md → D
  | .one a => .tup [di a]
  | .three a b e => .tup [di a, di b, di e]
def Md.ok (B : Option (List (Pm n))) (L : List Ln) (g : Pm n) : Md → Prop
  | .one a => Lw B L a g
  | .three a b e => ∃ p q r, Lw B L a p ∧ Lw B L b q ∧ Lw B L e r ∧ g = p * q * r⁻¹
theorem Md.ok.app {g : Pm n} {m : Md} (h : m.ok B L g) (M : List Ln) : m.ok B (L ++ M) g := by
  cases m with
  | one a => exact Lw.app h M
  | three a b e =>
    obtain ⟨p, q, r, h1, h2, h3, h4⟩ := h
    exact ⟨p, q, r, h1.app M, h2.app M, h3.app M, h4⟩
structure Tk (n : Nat) where
  g : Pm n
  md : Md
def tkD (l : Nat) (t : Tk n) : D := .tup [di l, pD t.g, t.md.D]
def prD (x : Nat × Nat) : D := .tup [di x.1, di x.2]
theorem md_pure (m : Md) : m.D.pure = true := by cases m <;> rfl
theorem tkD_pure (l : Nat) (t : Tk n) : (tkD l t).pure = true := by simp [tkD, D.pure, D.pures, pures_dis, md_pure]
theorem prD_pure (x : Nat × Nat) : (prD x).pure = true := rfl
section
variable {cs own : Cs} {k l : Nat} {c : Chn n} {Q : R D → Prop}
def Md.lines (c : Chn n) : Md → List Ln
  | .one _ => []
  | .three a b e => [.beh a b, .bck e, .beh c.lines.length (c.lines.length + 1)]
def Md.last (c : Chn n) : Md → Nat
  | .one a => a
  | .three a b e => c.lines.length + 2
theorem line_of_ok (hk : k + 2 + 3 * n ≤ cs.length) (m : Md) (hs : c.lines.length + 3 < 16777216) (h : Q (.v (di (m.last c)) (wr cs k { c with lines := c.lines ++ m.lines c } ++ own))) : got (popped f_Chain_line_of [.cell k, m.D] (wr cs k c ++ own)) Q := by
  refine got_poppedC hk (got_fn rfl ?_)
  cases m with
  | one a =>
    simp [b_Chain_line_of, Md.D]
    refine ⟨_, [], c, ⟨rfl, by simp⟩, _, frozen_pure rfl, ?_⟩
    have : c.lines ++ Md.lines c (.one a) = c.lines := List.append_nil _
    rw [this] at h
    exact h
  | three a b e =>
    simp [b_Chain_line_of, Md.D, wr_0 hk, stC]
    refine noted_ok hk (.beh a b) (by omega) ?_
    simp [wr_0 hk, stC]
    refine noted_ok hk (.bck e) (by simp; omega) ?_
    simp [wr_0 hk, stC]
    refine noted_ok hk (.beh c.lines.length (c.lines.length + 1)) (by simp; omega) ?_
    simp
    refine ⟨_, [], _, ⟨rfl, by rw [List.append_nil]⟩, _, frozen_pure rfl, ?_⟩
    exact h
theorem md_lw (m : Md) {g : Pm n} (hl : Al B c.lines) (h : m.ok B c.lines g) : Lw B (c.lines ++ m.lines c) (m.last c) g ∧ Al B (c.lines ++ m.lines c) := by
  cases m with
  | one a => exact ⟨h.app _, by rw [show Md.lines c (.one a) = [] from rfl, List.append_nil]; exact hl⟩
  | three a b e =>
    obtain ⟨p, q, r, h1, h2, h3, rfl⟩ := h
    have a1 := h1.beh h2
    have e1 := (h3.app [.beh a b]).bck
    rw [List.length_append, List.length_singleton] at e1
    have f1 := (a1.app [.bck e]).beh e1
    have hl1 := hl.one a1
    have hl2 := Al.one (x := .bck e) hl1 (by rw [List.length_append, List.length_singleton]; exact e1)
    have hl3 := Al.one (x := .beh c.lines.length (c.lines.length + 1)) hl2 f1
    simp only [List.append_assoc, List.length_append, List.length_cons, List.length_nil, List.cons_append, List.nil_append] at f1 hl3
    exact ⟨f1, hl3⟩
end
end
end Mi
end
section
set_option linter.all false
set_option maxHeartbeats 4000000
namespace Mi
open PySem tb
section
variable {n : Nat} {B : Option (List (Pm n))} {cs own : Cs} {k l : Nat} {c : Chn n} {Q : R D → Prop}
theorem w2a {x y : Cell} : (wr cs k c ++ (own ++ [x, y]))[cs.length + own.length]? = some x := by
  rw [List.getElem?_append_right (by rw [wr_len]; omega), List.getElem?_append_right (by rw [wr_len]; omega), wr_len, Nat.add_sub_cancel_left, Nat.sub_self]
  rfl
theorem w2b {x y : Cell} : (wr cs k c ++ (own ++ [x, y]))[cs.length + (own.length + 1)]? = some y := by
  rw [List.getElem?_append_right (by rw [wr_len]; omega), List.getElem?_append_right (by rw [wr_len]; omega), wr_len, show cs.length + (own.length + 1) - cs.length - own.length = 1 by omega]
  rfl
theorem w2sa {x y z : Cell} : (wr cs k c ++ (own ++ [x, y])).set (cs.length + own.length) z = wr cs k c ++ (own ++ [z, y]) := by
  rw [List.set_append_right _ _ (by rw [wr_len]; omega), List.set_append_right _ _ (by rw [wr_len]; omega), wr_len, Nat.add_sub_cancel_left, Nat.sub_self]
  rfl
theorem w2sb {x y z : Cell} : (wr cs k c ++ (own ++ [x, y])).set (cs.length + (own.length + 1)) z = wr cs k c ++ (own ++ [x, z]) := by
  rw [List.set_append_right _ _ (by rw [wr_len]; omega), List.set_append_right _ _ (by rw [wr_len]; omega), wr_len, show cs.length + (own.length + 1) - cs.length - own.length = 1 by omega]
  rfl
theorem w1a {x : Cell} : (wr cs k c ++ (own ++ [x]))[cs.length + own.length]? = some x := by
  rw [List.getElem?_append_right (by rw [wr_len]; omega), List.getElem?_append_right (by rw [wr_len]; omega), wr_len, Nat.add_sub_cancel_left, Nat.sub_self]
  rfl
theorem w1sa {x z : Cell} : (wr cs k c ++ (own ++ [x])).set (cs.length + own.length) z = wr cs k c ++ (own ++ [z]) := by
  rw [List.set_append_right _ _ (by rw [wr_len]; omega), List.set_append_right _ _ (by rw [wr_len]; omega), wr_len, Nat.add_sub_cancel_left, Nat.sub_self]
  rfl
theorem oNe_tp (a b : List Nat) {cs : Cs} : oNe cs (tp a) (tp b) = some (.bl (!decide (a = b))) := by
  unfold oNe
  rw [frozen_pure (d := tp a) (pures_dis a), frozen_pure (d := tp b) (pures_dis b)]
  simp only [Option.bind_some, fit_tp, Bool.and_self, if_true]
  congr 3
  exact decide_eq_decide.mpr tp_inj
theorem oEq_tp (a b : List Nat) {cs : Cs} : oEq cs (tp a) (tp b) = some (.bl (decide (a = b))) := by
  unfold oEq
  rw [frozen_pure (d := tp a) (pures_dis a), frozen_pure (d := tp b) (pures_dis b)]
  simp only [Option.bind_some, fit_tp, Bool.and_self, if_true]
  congr 2
  exact decide_eq_decide.mpr tp_inj
theorem keys_mem {s : Stp n} {x : Nat} : di x ∈ s.keys ↔ ∃ f ∈ s.lifts, f.key = x := by
  unfold Stp.keys
  rw [List.mem_map]
  exact exists_congr fun f => and_congr_right fun _ => di_inj
theorem put_new {s : Stp n} {x : Nat} {v : D} (h : s.find x = none) : put (di x) v s.keys (s.lifts.map liftD) = (s.keys ++ [di x], s.lifts.map liftD ++ [v]) := by
  unfold put
  rw [if_neg fun hm => ?_]
  obtain ⟨f, hf, e⟩ := keys_mem.mp hm
  exact find_none'.mp h f hf e
theorem GrI.bounds0 {L0 L1 M P n : Nat} (h1 : L0 ≤ L1) (h2 : L1 ≤ n) (h : P + L0 * M = L0 + L1 * M) (hM : 1 ≤ M) : P ≤ n * M := by
  have a : L0 ≤ L0 * M := Nat.le_mul_of_pos_right _ hM
  have b : L1 * M ≤ n * M := Nat.mul_le_mul_right _ h2
  omega
def Stp.plus (s : Stp n) (f : Lf n) : Stp n := { s with lifts := s.lifts ++ [f] }
structure GrI (B : Option (List (Pm n))) (c : Chn n) (l : Nat) (g : Pm n) (ln : Nat) (c1 : Chn n) (P : List (Nat × Nat)) (T : List (Tk n)) (at' : Nat) : Prop where
  same : ∀ j, j ≠ l → c1.st j = c.st j
  lifts : (c.st l).lifts <+: (c1.st l).lifts
  ms : (c1.st l).ms = (c.st l).ms ++ [(g, ln)]
  ok : SOk (c1.st l) l
  lok : Lok B c1
  pin : ∀ x ∈ P, (∃ f ∈ (c1.st l).lifts, f.key = x.1) ∧ x.2 < (c1.st l).ms.length
  cov : ∀ f ∈ (c1.st l).lifts, ∀ i, i < (c1.st l).ms.length → (f ∈ (c.st l).lifts ∧ i < (c.st l).ms.length) ∨ (f.key, i) ∈ P
  done : ∀ j x, j < at' → P[j]? = some x → ∀ f ∈ (c1.st l).lifts, f.key = x.1 → ∀ m, (c1.st l).ms[x.2]? = some m → ∃ f' ∈ (c1.st l).lifts, f.g * m.1 = f'.g ∨ f.g * m.1 * f'.g⁻¹ ∈ T.map Tk.g
  fxT : ∀ t ∈ T, (Fx (l + 1) t.g ∧ Gen (c1.mks l) t.g) ∧ t.md.ok B c1.lines t.g
  lenT : T.length ≤ at'
  atP : at' ≤ P.length
  lenP : P.length + (c.st l).lifts.length * (c1.st l).ms.length = (c.st l).lifts.length + (c1.st l).lifts.length * (c1.st l).ms.length
  lines : c1.lines.length + (c.st l).lifts.length = c.lines.length + (c1.st l).lifts.length
  lns : c.lines <+: c1.lines
theorem GrI.task {g : Pm n} {ln : Nat} {c1 : Chn n} {P T} {a to i : Nat} {f f' : Lf n} {m : Pm n × Nat} (hl : l < n) (I : GrI B c l g ln c1 P T a) (hx : P[a]? = some (to, i)) (hf : f ∈ (c1.st l).lifts) (hto : f.key = to) (hm : (c1.st l).ms[i]? = some m) (hf' : f' ∈ (c1.st l).lifts) (hk : f'.key = m.1 to) (hne : f.g * m.1 ≠ f'.g) :
    GrI B c l g ln c1 P (T ++ [⟨f.g * m.1 * f'.g⁻¹, .three f.ln m.2 f'.ln⟩]) (a + 1) := by
  have hmm := List.mem_of_getElem? hm
  have ha := (List.getElem?_eq_some_iff.mp hx).1
  have o1 := I.ok.lift f hf
  have o2 := I.ok.lift f' hf'
  have o3 := I.ok.mks m hmm
  refine { I with done := ?_, fxT := ?_, lenT := ?_, atP := ?_ }
  · intro j x hj hx' f2 hf2 e m2 hm2
    by_cases h : j = a
    · subst h
      rw [hx] at hx'
      cases hx'
      have : f2 = f := by
        have h1 := find_of I.ok.nodup hf
        have h2 := find_of I.ok.nodup hf2
        rw [hto] at h1
        rw [e] at h2
        rw [h1] at h2
        exact (Option.some.inj h2).symm
      subst this
      rw [hm] at hm2
      cases hm2
      exact ⟨f', hf', .inr (by simp)⟩
    · obtain ⟨f3, h3, h4⟩ := I.done j x (by omega) hx' f2 hf2 e m2 hm2
      exact ⟨f3, h3, h4.imp id fun h => by rw [List.map_append]; exact List.mem_append_left _ h⟩
  · intro t ht
    rcases List.mem_append.mp ht with ht | ht
    · exact I.fxT t ht
    · rw [List.mem_singleton] at ht
      subst ht
      refine ⟨⟨Fx.succ ((Fx.sg l).mul ((Fx.sg l).mul o1.1 o3) ((Fx.sg l).inv o2.1)) ?_, ?_⟩, f.g, m.1, f'.g, I.lok.lifts l hl f hf, I.lok.ms l hl m hmm, I.lok.lifts l hl f' hf', rfl⟩
      · rw [Pm.mul_ap, Pm.mul_ap, Pm.inv_ap_eq, o2.2, hk, o1.2, hto]
      · exact ((I.ok.tree f hf).mul (.of ⟨m, hmm, rfl⟩)).mul (I.ok.tree f' hf').inv
  · rw [List.length_append, List.length_singleton]
    have := I.lenT
    omega
  · omega
theorem GrI.skip {g : Pm n} {ln : Nat} {c1 : Chn n} {P T} {a to i : Nat} {f f' : Lf n} {m : Pm n × Nat} (I : GrI B c l g ln c1 P T a) (hx : P[a]? = some (to, i)) (hf : f ∈ (c1.st l).lifts) (hto : f.key = to) (hm : (c1.st l).ms[i]? = some m) (hf' : f' ∈ (c1.st l).lifts) (hne : f.g * m.1 = f'.g) :
    GrI B c l g ln c1 P T (a + 1) := by
  have ha := (List.getElem?_eq_some_iff.mp hx).1
  refine { I with done := ?_, lenT := ?_, atP := ?_ }
  · intro j x hj hx' f2 hf2 e m2 hm2
    by_cases h : j = a
    · subst h
      rw [hx] at hx'
      cases hx'
      have : f2 = f := by
        have h1 := find_of I.ok.nodup hf
        have h2 := find_of I.ok.nodup hf2
        rw [hto] at h1
        rw [e] at h2
        rw [h1] at h2
        exact (Option.some.inj h2).symm
      subst this
      rw [hm] at hm2
      cases hm2
      exact ⟨f', hf', .inl hne⟩
    · exact I.done j x (by omega) hx' f2 hf2 e m2 hm2
  · have := I.lenT
    omega
  · omega
def Chn.lifted (c : Chn n) (l : Nat) (f : Lf n) (x : Ln) : Chn n := { lines := c.lines ++ [x], st := fun j => if j = l then (c.st l).plus f else c.st j }
theorem GrI.lift {g : Pm n} {ln : Nat} {c1 : Chn n} {P T} {a to i : Nat} {f : Lf n} {m : Pm n × Nat} (hl : l < n) (I : GrI B c l g ln c1 P T a) (hx : P[a]? = some (to, i)) (hf : f ∈ (c1.st l).lifts) (hto : f.key = to) (hm : (c1.st l).ms[i]? = some m) (hno : (c1.st l).find (m.1 to) = none) :
    GrI B c l g ln (c1.lifted l ⟨m.1 to, f.g * m.1, c1.lines.length⟩ (.beh f.ln m.2)) (P ++ (List.range (c1.st l).ms.length).map fun j => (m.1 to, j)) T (a + 1) := by
  have hmm := List.mem_of_getElem? hm
  have ha := (List.getElem?_eq_some_iff.mp hx).1
  have o1 := I.ok.lift f hf
  have o3 := I.ok.mks m hmm
  generalize ew : (⟨m.1 to, f.g * m.1, c1.lines.length⟩ : Lf n) = w
  have wk : w.key = m.1 to := by rw [← ew]
  have wg : w.g = f.g * m.1 := by rw [← ew]
  have wl : w.ln = c1.lines.length := by rw [← ew]
  have sl : (c1.lifted l w (.beh f.ln m.2)).st l = (c1.st l).plus w := by simp [Chn.lifted]
  have sj : ∀ j, j ≠ l → (c1.lifted l w (.beh f.ln m.2)).st j = c1.st j := fun j hj => by simp [Chn.lifted, hj]
  have ll : ((c1.lifted l w (.beh f.ln m.2)).st l).lifts = (c1.st l).lifts ++ [w] := by rw [sl]; rfl
  have lm : ((c1.lifted l w (.beh f.ln m.2)).st l).ms = (c1.st l).ms := by rw [sl]; rfl
  have li : (c1.lifted l w (.beh f.ln m.2)).lines = c1.lines ++ [.beh f.ln m.2] := rfl
  have lw := (I.lok.lifts l hl f hf).beh (I.lok.ms l hl m hmm)
  have wok : Fx l w.g ∧ w.g l = w.key := by
    rw [wg, wk]
    refine ⟨(Fx.sg l).mul o1.1 o3, ?_⟩
    rw [Pm.mul_ap, o1.2, hto]
  refine { same := ?_, lifts := ?_, ms := ?_, ok := ?_, lok := ?_, pin := ?_, cov := ?_, done := ?_, fxT := ?_, lenT := ?_, atP := ?_, lenP := ?_, lines := ?_, lns := ?_ }
  · intro j hj
    rw [sj j hj, I.same j hj]
  · rw [ll]
    exact I.lifts.trans (List.prefix_append _ _)
  · rw [lm]
    exact I.ms
  · rw [sl]
    refine { free := I.ok.free, nodup := ?_, head := ?_, lift := ?_, mks := I.ok.mks, tree := ?_ }
    · show (((c1.st l).lifts ++ [w]).map Lf.key).Nodup
      rw [List.map_append, List.nodup_append]
      refine ⟨I.ok.nodup, by simp, fun x hx y hy => ?_⟩
      obtain ⟨f2, hf2, rfl⟩ := List.mem_map.mp hx
      rw [List.map_cons, List.map_nil, List.mem_singleton] at hy
      subst hy
      rw [wk]
      exact find_none'.mp hno f2 hf2
    · obtain ⟨r, e⟩ := I.ok.head
      exact ⟨r ++ [w], by show (c1.st l).lifts ++ [w] = _; rw [e]; rfl⟩
    · intro f2 hf2
      rcases List.mem_append.mp (show f2 ∈ (c1.st l).lifts ++ [w] from hf2) with h | h
      · exact I.ok.lift f2 h
      · rw [List.mem_singleton] at h
        subst h
        exact wok
    · intro f2 hf2
      rcases List.mem_append.mp (show f2 ∈ (c1.st l).lifts ++ [w] from hf2) with h | h
      · exact I.ok.tree f2 h
      · rw [List.mem_singleton] at h
        subst h
        rw [wg]
        exact (I.ok.tree f hf).mul (.of ⟨m, hmm, rfl⟩)
  · refine ⟨?_, fun j hj f2 hf2 => ?_, fun j hj m2 hm2 => ?_⟩
    · rw [li]
      exact I.lok.al.one lw
    · rw [li]
      by_cases e : j = l
      · subst e
        rw [ll] at hf2
        rcases List.mem_append.mp hf2 with h | h
        · exact (I.lok.lifts j hj f2 h).app _
        · rw [List.mem_singleton] at h
          subst h
          rw [wl, wg]
          exact lw
      · rw [sj j e] at hf2
        exact (I.lok.lifts j hj f2 hf2).app _
    · rw [li]
      by_cases e : j = l
      · subst e
        rw [lm] at hm2
        exact (I.lok.ms j hj m2 hm2).app _
      · rw [sj j e] at hm2
        exact (I.lok.ms j hj m2 hm2).app _
  · intro x hx
    rw [ll, lm]
    rcases List.mem_append.mp hx with h | h
    · obtain ⟨⟨f2, h1, h2⟩, h3⟩ := I.pin x h
      exact ⟨⟨f2, List.mem_append_left _ h1, h2⟩, h3⟩
    · obtain ⟨j, hj, rfl⟩ := List.mem_map.mp h
      exact ⟨⟨w, List.mem_append_right _ (by simp), wk⟩, List.mem_range.mp hj⟩
  · intro f2 hf2 j hj
    rw [ll] at hf2
    rw [lm] at hj
    rcases List.mem_append.mp hf2 with h | h
    · exact (I.cov f2 h j hj).imp id fun h => List.mem_append_left _ h
    · rw [List.mem_singleton] at h
      subst h
      refine .inr (List.mem_append_right _ (List.mem_map.mpr ⟨j, List.mem_range.mpr hj, by rw [wk]⟩))
  · intro j x hj hx' f2 hf2 e m2 hm2
    rw [ll] at hf2 ⊢
    rw [lm] at hm2
    have hjP : P[j]? = some x := by
      rw [List.getElem?_append_left (by omega)] at hx'
      exact hx'
    have hf3 : f2 ∈ (c1.st l).lifts := by
      rcases List.mem_append.mp hf2 with h | h
      · exact h
      · rw [List.mem_singleton] at h
        subst h
        obtain ⟨⟨f3, h1, h2⟩, _⟩ := I.pin x (List.mem_of_getElem? hjP)
        exact absurd (h2.trans (e.symm.trans wk)) (find_none'.mp hno f3 h1)
    by_cases h : j = a
    · subst h
      rw [hx] at hjP
      cases hjP
      have : f2 = f := by
        have h1 := find_of I.ok.nodup hf
        have h2 := find_of I.ok.nodup hf3
        rw [hto] at h1
        rw [e] at h2
        rw [h1] at h2
        exact (Option.some.inj h2).symm
      subst this
      rw [hm] at hm2
      cases hm2
      exact ⟨w, List.mem_append_right _ (by simp), .inl wg.symm⟩
    · obtain ⟨f4, h3, h4⟩ := I.done j x (by omega) hjP f2 hf3 e m2 hm2
      exact ⟨f4, List.mem_append_left _ h3, h4⟩
  · intro t ht
    obtain ⟨⟨h1, h2⟩, h3⟩ := I.fxT t ht
    refine ⟨⟨h1, h2.mono fun x ⟨m2, h, e⟩ => ⟨m2, by rw [lm]; exact h, e⟩⟩, ?_⟩
    rw [li]
    exact h3.app _
  · have := I.lenT
    omega
  · rw [List.length_append]
    omega
  · rw [ll, lm, List.length_append, List.length_append, List.length_map, List.length_range, List.length_singleton, Nat.add_mul, Nat.one_mul]
    have := I.lenP
    omega
  · rw [ll, li, List.length_append, List.length_append, List.length_singleton, List.length_singleton]
    have := I.lines
    omega
  · rw [li]
    exact I.lns.trans (List.prefix_append _ _)
end
end Mi
end
section
set_option linter.all false
set_option maxHeartbeats 4000000
namespace Mi
open PySem tb
section
variable {n : Nat} {B : Option (List (Pm n))} {cs own : Cs} {k l : Nat} {c : Chn n} {Q : R D → Prop}
def Stp.addM (s : Stp n) (m : Pm n × Nat) : Stp n := ⟨s.lifts, s.ms ++ [m], s.lk⟩
def Stp.lkd (s : Stp n) (b : Bool) : Stp n := ⟨s.lifts, s.ms, b⟩
def Chn.made (c : Chn n) (l : Nat) (g : Pm n) (ln : Nat) : Chn n := c.upd l ((c.st l).addM (g, ln))
def Chn.lock (c : Chn n) (l : Nat) (b : Bool) : Chn n := c.upd l ((c.st l).lkd b)
theorem Chn.ext {c c' : Chn n} (h : c.lines = c'.lines) (h2 : ∀ j, c.st j = c'.st j) : c = c' := by
  cases c
  cases c'
  simp only at h h2
  rw [h, funext h2]
theorem lock_lock (c : Chn n) (l : Nat) (b b' : Bool) : (c.lock l b).lock l b' = c.lock l b' := Chn.ext rfl fun j => by
  simp only [Chn.lock, Chn.upd]
  by_cases h : j = l <;> simp [h, Stp.lkd]
theorem lock_self {c : Chn n} {l : Nat} (h : (c.st l).lk = false) : c.lock l false = c := Chn.ext rfl fun j => by
  simp only [Chn.lock, Chn.upd]
  by_cases e : j = l
  · subst e
    rw [if_pos rfl, ← h]
    rfl
  · rw [if_neg e]
theorem set_lck (hk : k + 2 + 3 * n ≤ cs.length) (hl : l < n) : (wr cs k c ++ own).set (k + 2 + 3 * l + 1) (.lck (c.st l).keys ((c.st l).lifts.map liftD)) = wr cs k (c.lock l true) ++ own :=
  set_dc (s := (c.st l).lkd true) hk hl rfl
theorem set_free (hk : k + 2 + 3 * n ≤ cs.length) (hl : l < n) (hf : (c.st l).lk = false) : (wr cs k (c.lock l true) ++ own).set (k + 2 + 3 * l + 1) (.dct (c.st l).keys ((c.st l).lifts.map liftD)) = wr cs k c ++ own := by
  have e := set_dc (c := c.lock l true) (own := own) (s := (c.st l).lkd false) hk hl (by simp [Chn.lock, Chn.upd, Stp.lkd])
  have e2 : (c.lock l true).upd l ((c.st l).lkd false) = c := by
    have := lock_lock c l true false
    rw [lock_self hf] at this
    rw [← this]
    refine Chn.ext rfl fun j => ?_
    simp only [Chn.lock, Chn.upd]
    by_cases h : j = l <;> simp [h, Stp.lkd]
  rw [e2] at e
  exact e
theorem lock_st (c : Chn n) (l : Nat) : ((c.lock l true).st l) = (c.st l).lkd true := by simp [Chn.lock, Chn.upd]
theorem lock_dc (c : Chn n) (l : Nat) : ((c.lock l true).st l).dc = .lck (c.st l).keys ((c.st l).lifts.map liftD) := by rw [lock_st]; rfl
theorem made_ok {g : Pm n} {ln : Nat} (o : SOk (c.st l) l) (hg : Fx l g) : SOk ((c.made l g ln).st l) l := by
  have e : (c.made l g ln).st l = (c.st l).addM (g, ln) := by simp [Chn.made, Chn.upd]
  rw [e]
  refine { free := o.free, nodup := o.nodup, head := o.head, lift := o.lift, mks := fun m hm => ?_, tree := fun f hf => ?_ }
  · rcases List.mem_append.mp hm with h | h
    · exact o.mks m h
    · rw [List.mem_singleton] at h
      subst h
      exact hg
  · exact (o.tree f hf).mono fun x ⟨m, hm, e⟩ => ⟨m, List.mem_append_left _ hm, e⟩
theorem made_start {g : Pm n} {ln : Nat} (hl : l < n) (o : SOk (c.st l) l) (hg : Fx l g) (L : Lok B c) (hln : Lw B c.lines ln g) :
    GrI B c l g ln (c.made l g ln) ((c.st l).lifts.map fun f => (f.key, (c.st l).ms.length)) [] 0 := by
  have sl : (c.made l g ln).st l = (c.st l).addM (g, ln) := by simp [Chn.made, Chn.upd]
  have sm : ((c.made l g ln).st l).ms = (c.st l).ms ++ [(g, ln)] := by rw [sl]; rfl
  have sf : ((c.made l g ln).st l).lifts = (c.st l).lifts := by rw [sl]; rfl
  have sj : ∀ j, j ≠ l → (c.made l g ln).st j = c.st j := fun j hj => by simp [Chn.made, Chn.upd, hj]
  refine { same := sj, lifts := ?_, ms := ?_, ok := made_ok o hg, lok := ?_, pin := ?_, cov := ?_, done := fun j x h => absurd h (Nat.not_lt_zero _), fxT := (fun t ht => nomatch ht), lenT := Nat.le_refl _, atP := Nat.zero_le _, lenP := ?_, lines := ?_, lns := List.prefix_refl _ }
  · rw [sf]; exact List.prefix_refl _
  · exact sm
  · refine ⟨L.al, fun j hj f hf => ?_, fun j hj m hm => ?_⟩
    · by_cases e : j = l
      · subst e
        rw [sf] at hf
        exact L.lifts j hj f hf
      · rw [sj j e] at hf
        exact L.lifts j hj f hf
    · by_cases e : j = l
      · subst e
        rw [sm] at hm
        rcases List.mem_append.mp hm with h | h
        · exact L.ms j hj m h
        · rw [List.mem_singleton] at h
          subst h
          exact hln
      · rw [sj j e] at hm
        exact L.ms j hj m hm
  · intro x hx
    obtain ⟨f, hf, rfl⟩ := List.mem_map.mp hx
    rw [sf, sm]
    exact ⟨⟨f, hf, rfl⟩, by simp⟩
  · intro f hf i hi
    rw [sf] at hf
    rw [sm] at hi
    simp at hi
    by_cases h : i < (c.st l).ms.length
    · exact .inl ⟨hf, h⟩
    · refine .inr (List.mem_map.mpr ⟨f, hf, ?_⟩)
      rw [show i = (c.st l).ms.length by omega]
  · rw [sf, List.length_map]
  · rw [sf]
    rfl
theorem GrI.grow {g : Pm n} {ln : Nat} {c1 : Chn n} {P T} (I : GrI B c l g ln c1 P T P.length) : Chn.Grow c c1 l g (T.map Tk.g) := by
  refine { same := I.same, lifts := I.lifts, ms := ⟨ln, I.ms⟩, ok := I.ok, fxT := fun t ht => ?_, pair := fun f hf m hm => ?_ }
  · obtain ⟨u, hu, rfl⟩ := List.mem_map.mp ht
    exact (I.fxT u hu).1
  · obtain ⟨i, hi⟩ := List.getElem?_of_mem hm
    have hil := (List.getElem?_eq_some_iff.mp hi).1
    rcases I.cov f hf i hil with ⟨h1, h2⟩ | h
    · left
      refine ⟨h1, ?_⟩
      rw [I.ms, List.getElem?_append_left h2] at hi
      exact List.mem_of_getElem? hi
    · right
      obtain ⟨j, hj⟩ := List.getElem?_of_mem h
      exact I.done j _ (List.getElem?_eq_some_iff.mp hj).1 hj f hf rfl m hi
theorem lifted_dc {c1 : Chn n} {f : Lf n} {x : Ln} (hfr : (c1.st l).lk = false) : ((c1.st l).plus f).dc = .dct ((c1.st l).keys ++ [di f.key]) ((c1.st l).lifts.map liftD ++ [liftD f]) := by
  unfold Stp.dc Stp.plus
  simp [hfr, Stp.keys]
theorem set_lift {c1 : Chn n} {f : Lf n} {x : Ln} (hk : k + 2 + 3 * n ≤ cs.length) (hl : l < n) (hfr : (c1.st l).lk = false) : (wr cs k { c1 with lines := c1.lines ++ [x] } ++ own).set (k + 2 + 3 * l + 1) (.dct ((c1.st l).keys ++ [di f.key]) ((c1.st l).lifts.map liftD ++ [liftD f])) = wr cs k (c1.lifted l f x) ++ own := by
  have e := set_dc (c := { c1 with lines := c1.lines ++ [x] }) (own := own) (s := (c1.st l).plus f) hk hl rfl
  rw [lifted_dc (x := x) hfr] at e
  rw [e]
  rfl
theorem grown_ok (hk : k + 2 + 3 * n ≤ cs.length) (hn : n ≤ 60) (hl : l < n) {g : Pm n} {ln : Nat} (o : SOk (c.st l) l) (hg : Fx l g) (L : Lok B c) (hln : Lw B c.lines ln g) (hms : (c.st l).ms.length ≤ n * n) (hli : c.lines.length ≤ 10000000)
    (h : ∀ (c1 : Chn n) (T : List (Tk n)) (P : List (Nat × Nat)), GrI B c l g ln c1 P T P.length → Q (.v (.lst (T.map (tkD (l + 1)))) (wr cs k c1 ++ own))) : got (popped f_Chain_grown [.cell k, .cell (k + 2 + 3 * l), pD g, di ln] (wr cs k c ++ own)) Q := by
  refine got_poppedC hk (got_fn rfl ?_)
  have nn : n * n ≤ 3600 := Nat.mul_le_mul hn hn
  have ma : makD (g, ln) = .tup [pD g, di ln] := rfl
  have e1 := set_ms (c := c) (own := own) (s := (c.st l).addM (g, ln)) hk hl rfl
  simp only [Stp.addM, List.map_append, List.map_cons, List.map_nil, ma] at e1
  rw [show c.upd l ⟨(c.st l).lifts, (c.st l).ms ++ [(g, ln)], (c.st l).lk⟩ = c.made l g ln from rfl] at e1
  have hm1 : (c.st l).ms.length < 16777216 := by omega
  have o1 := made_ok (ln := ln) o hg
  have sl : (c.made l g ln).st l = (c.st l).addM (g, ln) := by simp [Chn.made, Chn.upd]
  have ms1 : ((c.made l g ln).st l).ms = (c.st l).ms ++ [(g, ln)] := by rw [sl]; rfl
  have lf1 : ((c.made l g ln).st l).lifts = (c.st l).lifts := by rw [sl]; rfl
  have lkm : (((c.made l g ln).lock l true).st l).ms = (c.st l).ms ++ [(g, ln)] := by rw [lock_st, sl]; rfl
  have L0 := o.len_le hl
  simp [b_Chain_grown, wr_s hk hl, wr_m hk hl, hm1, e1, wr_d hk hl, dctU_dc o1.free, set_lck hk hl, lock_dc]
  refine got_lc_map (fun d => .tup [d, di (c.st l).ms.length]) rfl ?_ (fun x hx => ?_) ?_
  · simp [Stp.keys, lf1]
    omega
  · simp [eYes, wipe, wr_s hk hl, wr_m hk hl, lkm]
  · have M1 : ((c.made l g ln).st l).ms.length = (c.st l).ms.length + 1 := by rw [ms1]; simp
    simp [wr_d hk hl, lock_dc, set_free hk hl o1.free, wr_len]
    have S := made_start hl o hg L hln
    generalize eM : (c.st l).ms.length + 1 = M at *
    have pk : List.map (fun d => D.tup [d, di (c.st l).ms.length]) ((c.made l g ln).st l).keys = ((c.st l).lifts.map fun f => (f.key, (c.st l).ms.length)).map prD := by
      unfold Stp.keys
      rw [lf1, List.map_map, List.map_map]
      rfl
    rw [pk]
    refine got_while (fun m env cs' => ∃ (c1 : Chn n) (P : List (Nat × Nat)) (T : List (Tk n)) (a : Nat) (y5 y8 y9 y10 y11 y12 y13 y14 y15 y16 y17 : Option D), env = [some (.cell k), some (.cell (k + 2 + 3 * l)), some (pD g), some (di ln), some (.cell (cs.length + own.length)), y5, some (.cell (cs.length + (own.length + 1))), some (di a), y8, y9, y10, y11, y12, y13, y14, y15, y16, y17] ∧
        cs' = wr cs k c1 ++ (own ++ [.lst (P.map prD), .lst (T.map (tkD (l + 1)))]) ∧ GrI B c l g ln c1 P T a ∧ m + a = n * M) (n * M) ?_
      ⟨c.made l g ln, _, [], 0, none, none, none, none, none, none, none, none, none, none, none, rfl, rfl, S, rfl⟩ ?_
    · have : n * M ≤ 60 * 3601 := Nat.mul_le_mul hn (by omega)
      unfold FUEL
      omega
    · rintro m env cs' ⟨c1, P, T, a, y5, y8, y9, y10, y11, y12, y13, y14, y15, y16, y17, rfl, rfl, I, hma⟩
      have hM : (c1.st l).ms.length = M := by rw [I.ms]; simp [eM]
      have hL1 : (c1.st l).lifts.length ≤ n := I.ok.len_le hl
      have hP : P.length ≤ n * M := by
        have := I.lenP
        rw [hM] at this
        exact GrI.bounds0 I.lifts.length_le hL1 this (by omega)
      have hnM : n * M ≤ 60 * 3601 := Nat.mul_le_mul hn (by omega)
      simp [w2a, w2b]
      split
      · rename_i hlt
        obtain ⟨⟨to, i⟩, hx⟩ : ∃ x, P[a]? = some x := ⟨_, List.getElem?_eq_getElem hlt⟩
        obtain ⟨⟨f, hf, hto⟩, hi⟩ := I.pin _ (List.mem_of_getElem? hx)
        dsimp only at hto hi
        obtain ⟨mm, hm⟩ : ∃ x, (c1.st l).ms[i]? = some x := ⟨_, List.getElem?_eq_getElem hi⟩
        have q1 : atI (P.map prD) (a : Int) = some (prD (to, i)) := atI_nat (by rw [List.getElem?_map, hx]; rfl)
        have q2 : atI ((c1.st l).ms.map makD) (i : Int) = some (makD mm) := atI_nat (by rw [List.getElem?_map, hm]; rfl)
        have q3 : (c1.st l).find to = some f := hto ▸ find_of I.ok.nodup hf
        have hto2 : to < n := hto ▸ I.ok.key_lt hl hf
        have q4 := pD_at mm.1 hto2
        simp [q1, prD, wr_s hk hl, wr_d hk hl, wr_m hk hl, find_lifts, q3, liftD, q2, makD]
        refine behind_ok _ _ hn ?_
        simp [q4, wr_s hk hl, wr_d hk hl, find_lifts]
        have hl3 : c1.lines.length ≤ c.lines.length + n := by have := I.lines; omega
        cases hno : (c1.st l).find (mm.1 to) with
        | none =>
          have S2 := I.lift hl hx hf hto hm hno
          have sl2 := set_lift (f := ⟨mm.1 to, f.g * mm.1, c1.lines.length⟩) (x := .beh f.ln mm.2) (own := own ++ [Cell.lst (P.map prD), Cell.lst (T.map (tkD (l + 1)))]) hk hl I.ok.free
          simp only [liftD] at sl2
          have kl : (c1.st l).keys.length < 16777216 := by unfold Stp.keys; rw [List.length_map]; omega
          have lm2 : ((c1.lifted l ⟨mm.1 to, f.g * mm.1, c1.lines.length⟩ (.beh f.ln mm.2)).st l).ms = (c1.st l).ms := by simp [Chn.lifted, Stp.plus]
          simp [hno, wr_0 hk, stC]
          refine noted_ok hk (.beh f.ln mm.2) (by omega) ?_
          simp [wr_s hk hl, wr_d hk hl, dctU_dc I.ok.free, put_new hno, kl, sl2, w2a, wr_m hk hl, lm2]
          refine ⟨by omega, got_lc_map (fun d => .tup [di (mm.1 to), d]) rfl ?_ (fun x hx => ?_) ?_⟩
          · rw [rng_len, hM]
            show M ≤ 16777216
            omega
          · obtain ⟨j, hj, rfl⟩ := List.mem_map.mp hx
            simp [eYes, wipe]
          · simp [w2a, w2sa, rng_len, hM]
            refine ⟨by omega, m - 1, by omega, _, P ++ (List.range (c1.st l).ms.length).map fun j => (mm.1 to, j), T, a + 1, by simp, ?_, S2, by omega⟩
            congr 3
            rw [hM, rng_nat, List.map_append, List.map_map, List.map_map]
            rfl
        | some f' =>
          have hf' := find_mem hno
          simp [hno, liftD, oNe_tp]
          by_cases he : f.g * mm.1 = f'.g
          · have S2 := I.skip hx hf hto hm hf'.1 he
            simp [he]
            exact ⟨m - 1, by omega, c1, P, T, a + 1, by simp, rfl, S2, by omega⟩
          · have S2 := I.task hl hx hf hto hm hf'.1 hf'.2 he
            have hT := I.lenT
            have he' : ¬ (f.g * mm.1).l = f'.g.l := fun h => he (Pm.ext_l h)
            simp [he', wr_s hk hl, wr_d hk hl, find_lifts, hno, liftD, w2b]
            refine back_ok _ hn ?_
            simp
            refine behind_ok _ _ hn ?_
            simp [w2b, w2sb]
            refine ⟨by omega, m - 1, by omega, c1, P, T ++ [⟨f.g * mm.1 * f'.g⁻¹, .three f.ln mm.2 f'.ln⟩], a + 1, by simp, ?_, S2, by omega⟩
            simp [tkD, Md.D]
      · rename_i hge
        have ha := I.atP
        have : a = P.length := by omega
        subst this
        refine ⟨_, _, c1, ⟨rfl, rfl⟩, _, frozen_cell (by omega) w2b (D.pures_iff.mpr fun x hx => ?_), h c1 T P I⟩
        obtain ⟨t, _, rfl⟩ := List.mem_map.mp hx
        exact tkD_pure _ t
end
end Mi
end
section
set_option linter.all false
set_option maxHeartbeats 4000000
namespace Mi
open PySem tb
def sumR (f : Nat → Nat) : Nat → Nat → Nat
  | 0, _ => 0
  | d + 1, l => f l + sumR f d (l + 1)
theorem sumR_le {f g : Nat → Nat} (h : ∀ j, f j ≤ g j) : ∀ d l, sumR f d l ≤ sumR g d l
  | 0, _ => Nat.le_refl _
  | d + 1, l => Nat.add_le_add (h l) (sumR_le h d (l + 1))
theorem sumR_bound {f : Nat → Nat} {b n : Nat} (h : ∀ j, j < n → f j ≤ b) : ∀ d l, d + l ≤ n → sumR f d l ≤ d * b
  | 0, _, _ => Nat.zero_le _
  | d + 1, l, e => by
    have := sumR_bound h d (l + 1) (by omega)
    have := h l (by omega)
    simp only [sumR, Nat.add_mul, Nat.one_mul]
    omega
theorem sumR_same {f g : Nat → Nat} {l : Nat} : ∀ d m, (∀ j, m ≤ j → f j = g j) → sumR f d m = sumR g d m
  | 0, _, _ => rfl
  | d + 1, m, h => by
    simp only [sumR]
    rw [h m (Nat.le_refl _), sumR_same (l := l) d (m + 1) fun j hj => h j (by omega)]
theorem sumR_upd {f g : Nat → Nat} {l : Nat} (h : ∀ j, j ≠ l → f j = g j) : ∀ d m, m ≤ l → l < m + d → sumR f d m + g l = sumR g d m + f l
  | 0, m, h1, h2 => by omega
  | d + 1, m, h1, h2 => by
    simp only [sumR]
    by_cases e : m = l
    · subst e
      rw [sumR_same (l := m) d (m + 1) fun j hj => h j (by omega)]
      omega
    · have := sumR_upd h d (m + 1) (by omega) (by omega)
      rw [h m e]
      omega
section
variable {n : Nat}
namespace Chn
def pr (c : Chn n) : Nat := sumR (fun j => (c.st j).lifts.length * (c.st j).ms.length) n 0
def ph (c : Chn n) : Nat := sumR (fun j => 3 * (c.st j).ms.length + (c.st j).lifts.length) n 0
theorem pr_mono {c c' : Chn n} (E : Ext c c') : c.pr ≤ c'.pr := sumR_le (fun j => Nat.mul_le_mul (E.lifts j).length_le (E.ms j).length_le) _ _
structure CI (A : Pm n → Prop) (B : Option (List (Pm n))) (X : Nat) (c : Chn n) (l : Nat) : Prop where
  wf : Wf c A
  comp : Comp c l
  bd : Bd c l
  gb : ∀ j, j < n → (c.st j).ms.length ≤ n * n + 1
  lok : Lok B c
  lb : c.lines.length ≤ c.ph + X
structure CE (c c' : Chn n) (l : Nat) : Prop where
  ext : Ext c c'
  below : ∀ j, j < l → c'.st j = c.st j
  lns : c.lines <+: c'.lines
theorem CE.refl (c : Chn n) (l : Nat) : CE c c l := ⟨.refl c, fun _ _ => rfl, List.prefix_refl _⟩
theorem CE.trans {c c1 c2 : Chn n} {l : Nat} (h : CE c c1 l) (h2 : CE c1 c2 l) : CE c c2 l := ⟨h.ext.trans h2.ext, fun j hj => (h2.below j hj).trans (h.below j hj), h.lns.trans h2.lns⟩
theorem pr_le {c : Chn n} (W : ∀ l, l < n → SOk (c.st l) l) (g : ∀ j, j < n → (c.st j).ms.length ≤ n * n + 1) : c.pr ≤ n * (n * (n * n + 1)) :=
  sumR_bound (n := n) (fun j hj => Nat.mul_le_mul ((W j hj).len_le hj) (g j hj)) n 0 (by omega)
theorem ph_le {c : Chn n} (W : ∀ l, l < n → SOk (c.st l) l) (g : ∀ j, j < n → (c.st j).ms.length ≤ n * n + 1) : c.ph ≤ n * (3 * (n * n + 1) + n) :=
  sumR_bound (n := n) (fun j hj => Nat.add_le_add (Nat.mul_le_mul_left _ (g j hj)) ((W j hj).len_le hj)) n 0 (by omega)
theorem bd_ms {c : Chn n} (W : ∀ l, l < n → SOk (c.st l) l) {l : Nat} (B : Bd c l) (hl : l < n) : (c.st l).ms.length ≤ n * n := by
  have := B l (Nat.le_refl _) hl
  have := cnt_le W (n - l) l (by omega)
  have : n * (n - l) ≤ n * n := Nat.mul_le_mul_left _ (by omega)
  omega
theorem up_mono {c c' : Chn n} {A : Pm n → Prop} (E : Ext c c') {l : Nat} {g : Pm n} (h : c.up A l g) : c'.up A l g := by
  cases l with
  | zero => exact h
  | succ l => exact Gen.mono (fun x ⟨m, hm, e⟩ => ⟨m, (E.ms l).subset hm, e⟩) h
structure TO (A : Pm n → Prop) (B : Option (List (Pm n))) (c : Chn n) (l : Nat) (t : Tk n) : Prop where
  fx : Fx l t.g
  up : c.up A l t.g
  md : t.md.ok B c.lines t.g
theorem md_pre {B : Option (List (Pm n))} {L M : List Ln} {g : Pm n} {m : Md} (h : m.ok B L g) (p : L <+: M) : m.ok B M g := by
  obtain ⟨r, rfl⟩ := p
  exact h.app r
theorem TO.mono {A : Pm n → Prop} {B : Option (List (Pm n))} {c c' : Chn n} {l l' : Nat} {t : Tk n} (h : TO A B c l t) (E : CE c c' l') : TO A B c' l t := ⟨h.fx, up_mono E.ext h.up, md_pre h.md E.lns⟩
theorem grown_ci {A : Pm n → Prop} {B : Option (List (Pm n))} {X : Nat} {c c1 : Chn n} {l ln : Nat} {t : Tk n} {T P} (hl : l < n) (I : CI A B X c l) (ht : TO A B c l t) (ls : List Ln) (hls : ls.length ≤ 3)
    (G : GrI B { c with lines := c.lines ++ ls } l t.g ln c1 P T P.length) : CI A B X c1 (l + 1) ∧ CE c c1 l ∧ (∀ u ∈ T, TO A B c1 (l + 1) u) ∧ T.length + c.pr ≤ c1.pr ∧ Grow c c1 l t.g (T.map Tk.g) := by
  have g0 := G.grow
  have g1 : Grow c c1 l t.g (T.map Tk.g) := ⟨g0.same, g0.lifts, g0.ms, g0.ok, g0.fxT, g0.pair⟩
  have W1 := g1.wf I.wf hl ht.up
  have hm : (c1.st l).ms.length = (c.st l).ms.length + 1 := by rw [G.ms]; simp
  refine ⟨⟨W1, g1.comp I.comp, g1.bd I.bd, fun j hj => ?_, G.lok, ?_⟩, ⟨g1.ext, fun j hj => g1.same j (by omega), (List.prefix_append _ _).trans G.lns⟩, fun u hu => ?_, ?_, g1⟩
  · by_cases e : j = l
    · subst e
      have := bd_ms I.wf.ok I.bd hl
      omega
    · rw [g1.same j e]
      exact I.gb j hj
  · have e := sumR_upd (f := fun j => 3 * (c1.st j).ms.length + (c1.st j).lifts.length) (g := fun j => 3 * (c.st j).ms.length + (c.st j).lifts.length) (l := l) (fun j hj => by simp only [g1.same j hj]) n 0 (Nat.zero_le _) (by omega)
    have lb := I.lb
    have li := G.lines
    simp only [List.length_append] at li e
    unfold Chn.ph at lb ⊢
    omega
  · have := G.fxT u hu
    exact ⟨this.1.1, this.1.2, this.2⟩
  · have e := sumR_upd (f := fun j => (c1.st j).lifts.length * (c1.st j).ms.length) (g := fun j => (c.st j).lifts.length * (c.st j).ms.length) (l := l) (fun j hj => by simp only [g1.same j hj]) n 0 (Nat.zero_le _) (by omega)
    have lt := G.lenT
    have lp := G.lenP
    dsimp only at e lp
    unfold Chn.pr
    rw [hm] at lp e
    have e2 : (c.st l).lifts.length * ((c.st l).ms.length + 1) = (c.st l).lifts.length * (c.st l).ms.length + (c.st l).lifts.length := Nat.mul_succ _ _
    omega
end Chn
theorem got_wh1 {t : E} {b : S} {Q : O → Prop} {f : Nat} {env : Env} {cs : Cs}
    (h : got (t env cs) (testK (fun c cs => Q (.x c env cs)) (fun cs => got (b env cs) (turnK (fun env cs => got (whileL t b f env cs) Q) Q)) (fun cs => Q (.nx env cs)))) : got (whileL t b (f + 1) env cs) Q := by
  simp only [whileL, got_thn]
  refine h.mono fun r q => ?_
  match r with
  | .x c cs' => simpa using q
  | .v (.bl true) cs' =>
    simp only [testK_bl, if_true] at q
    simp only [kontS_v]
    obtain ⟨o, eo, ho⟩ := q
    rw [eo]
    match o with
    | .nx env' cs' => exact ho
    | .ct env' cs' => exact ho
    | .bk env' cs' => simpa using ho
    | .rt d cs' => simpa using ho
    | .x c env' cs' => simpa using ho
  | .v (.bl false) cs' => simpa using q
  | .v .non cs => exact q.elim
  | .v (.int _) cs => exact q.elim
  | .v (.str _) cs => exact q.elim
  | .v (.tup _) cs => exact q.elim
  | .v (.lst _) cs => exact q.elim
  | .v (.dct _ _) cs => exact q.elim
  | .v (.obj _ _) cs => exact q.elim
  | .v (.cell _) cs => exact q.elim
  | .v (.fro _) cs => exact q.elim
def addT : E := (e2 oGt (e1 oLen (eVar 3)) (eC (.int 0)))
def addB : S := (sSeq (sAsg (gT [(gN 4), (gN 5), (gN 6)]) (m1 isL oPop (eVar 3) aNil))
    (sIf (e2 oLt (e2 oIx (meth 1 (popped f_Chain_rest) (eVar 0) (aCons (eVar 5) (aCons (eVar 4) aNil))) (eC (.int 0))) (e1 (oFld 1 0) (eVar 0))) (sExpr (m1 isL oExtend (eVar 3) (aCons (meth 1 (popped f_Chain_grown) (eVar 0) (aCons (e2 oIx (e1 (oFld 1 2) (eVar 0)) (eVar 4)) (aCons (eVar 5) (aCons (meth 1 (popped f_Chain_line_of) (eVar 0) (aCons (eVar 6) aNil)) aNil)))) aNil))) sNext))
section
variable {B : Option (List (Pm n))} {cs own : Cs} {k : Nat} {Q : O → Prop} {A : Pm n → Prop} {X : Nat} {y1 y2 : Option D}
theorem add_one {c : Chn n} {l f : Nat} {t : Tk n} {S0 : List D} {y4 y5 y6 : Option D} (hk : k + 2 + 3 * n ≤ cs.length) (hn : n ≤ 60) (hX : X ≤ 1000000) (hl : l ≤ n) (I : Chn.CI A B X c l) (ht : Chn.TO A B c l t) (hS : S0.length ≤ c.pr)
    (h0 : c.In (n - l) l t.g → got (whileL addT addB f [some (.cell k), y1, y2, some (.cell (cs.length + own.length)), some (di l), some (pD t.g), some t.md.D] (wr cs k c ++ (own ++ [.lst S0]))) Q)
    (h1 : ∀ (c1 : Chn n) (T : List (Tk n)), l < n → ¬ c.In (n - l) l t.g → Chn.CI A B X c1 (l + 1) → Chn.CE c c1 l → (∀ u ∈ T, Chn.TO A B c1 (l + 1) u) → T.length + c.pr ≤ c1.pr → Chn.Grow c c1 l t.g (T.map Tk.g) →
      got (whileL addT addB f [some (.cell k), y1, y2, some (.cell (cs.length + own.length)), some (di l), some (pD t.g), some t.md.D] (wr cs k c1 ++ (own ++ [.lst (S0 ++ T.map (tkD (l + 1)))]))) Q) :
    got (whileL addT addB (f + 1) [some (.cell k), y1, y2, some (.cell (cs.length + own.length)), y4, y5, y6] (wr cs k c ++ (own ++ [.lst (S0 ++ [tkD l t])]))) Q := by
  refine got_wh1 ?_
  have nn : n * n ≤ 3600 := Nat.mul_le_mul hn hn
  have prl : ∀ {c : Chn n}, (∀ l, l < n → SOk (c.st l) l) → (∀ j, j < n → (c.st j).ms.length ≤ n * n + 1) → c.pr ≤ 12963600 := fun W g => by
    have := Chn.pr_le W g
    have a : n * (n * n + 1) ≤ 60 * 3601 := Nat.mul_le_mul hn (by omega)
    have : n * (n * (n * n + 1)) ≤ 60 * (60 * 3601) := Nat.mul_le_mul hn a
    omega
  have phl : c.ph ≤ 651780 := by
    have := Chn.ph_le I.wf.ok I.gb
    have : n * (3 * (n * n + 1) + n) ≤ 60 * (3 * 3601 + 60) := Nat.mul_le_mul hn (by omega)
    omega
  have lb := I.lb
  have hp0 : (0 : Int) < (S0.length : Int) + 1 := by omega
  simp [addT, addB, w1a, w1sa, hp0, tkD, wr_0 hk, stC]
  refine rest_ok hk hn c t.g hl ?_
  rcases Chn.rest_in (d := n - l) I.wf.ok (by omega) ht.fx with ⟨a, b, i⟩ | ⟨a, b⟩
  · simp [a, wr_0 hk, stC]
    exact h0 i
  · have hln : l < n := by
      refine Nat.lt_of_le_of_ne hl fun e => ?_
      subst e
      rw [Nat.sub_self] at a
      exact Nat.lt_irrefl _ a
    have hsl : atI ((List.range n).map fun i => D.cell (k + 2 + 3 * i)) (l : Int) = some (.cell (k + 2 + 3 * l)) := atI_nat (by rw [List.getElem?_map, List.getElem?_range hln]; rfl)
    have lk := md_lw t.md I.lok.al ht.md
    have lok2 : Lok B { c with lines := c.lines ++ t.md.lines c } := ⟨lk.2, fun j hj f hf => (I.lok.lifts j hj f hf).app _, fun j hj m hm => (I.lok.ms j hj m hm).app _⟩
    have mdl : (t.md.lines c).length ≤ 3 := by cases t.md <;> simp [Md.lines]
    simp [a, wr_0 hk, stC, w1a, hsl]
    refine line_of_ok hk t.md (by omega) ?_
    simp
    refine grown_ok hk hn hln (I.wf.ok l hln) ht.fx lok2 lk.1 (Chn.bd_ms I.wf.ok I.bd hln) (by simp; omega) fun c1 T P G => ?_
    obtain ⟨r1, r2, r3, r4, r5⟩ := Chn.grown_ci hln I ht _ mdl G
    have p1 := prl r1.wf.ok r1.gb
    simp [w1a, w1sa]
    exact ⟨by omega, h1 c1 T hln b r1 r2 r3 r4 r5⟩
def PB (n : Nat) : Nat := n * (n * (n * n + 1))
def Proc (A : Pm n → Prop) (B : Option (List (Pm n))) (X : Nat) (cs own : Cs) (k : Nat) (y1 y2 : Option D) (l : Nat) : Prop := ∀ (Q : O → Prop) (R : List (Tk n)) (c : Chn n) (S0 : List D) (f : Nat) (y4 y5 y6 : Option D), Chn.CI A B X c l → (∀ t ∈ R, Chn.TO A B c l t) →
  S0.length + R.length ≤ 1 + c.pr → R.length + PB n ≤ f + c.pr →
  (∀ (c' : Chn n) (f' : Nat) (y4 y5 y6 : Option D), Chn.CI A B X c' l → Chn.CE c c' l → (∀ t ∈ R, c'.In (n - l) l t.g) → f + c.pr ≤ f' + R.length + c'.pr →
    got (whileL addT addB f' [some (.cell k), y1, y2, some (.cell (cs.length + own.length)), y4, y5, y6] (wr cs k c' ++ (own ++ [.lst S0]))) Q) →
  got (whileL addT addB f [some (.cell k), y1, y2, some (.cell (cs.length + own.length)), y4, y5, y6] (wr cs k c ++ (own ++ [.lst (S0 ++ R.reverse.map (tkD l))]))) Q
theorem proc_all (hk : k + 2 + 3 * n ≤ cs.length) (hn : n ≤ 60) (hX : X ≤ 1000000) : ∀ (d l : Nat), d + l = n → Proc A B X cs own k y1 y2 l
  | d, l, e => by
    intro Q R
    induction R with
    | nil =>
      intro c S0 f y4 y5 y6 I hT hS hf h
      simp only [List.reverse_nil, List.map_nil, List.append_nil]
      exact h c f y4 y5 y6 I (.refl c l) (fun t ht => by cases ht) (by simp)
    | cons t R ih =>
      intro c S0 f y4 y5 y6 I hT hS hf h
      have prb : c.pr ≤ PB n := Chn.pr_le I.wf.ok I.gb
      rw [List.length_cons] at hS hf
      obtain ⟨f, rfl⟩ : ∃ g, f = g + 1 := ⟨f - 1, by omega⟩
      rw [List.reverse_cons, List.map_append, ← List.append_assoc S0]
      have ht := hT t List.mem_cons_self
      have hR : ∀ u ∈ R, Chn.TO A B c l u := fun u hu => hT u (List.mem_cons_of_mem _ hu)
      refine add_one (S0 := S0 ++ R.reverse.map (tkD l)) hk hn hX (by omega) I ht (by rw [List.length_append, List.length_map, List.length_reverse]; omega) (fun hin => ?_) fun c1 T hl hni I1 E1 hT1 hp1 G => ?_
      · refine ih c S0 f _ _ _ I hR (by omega) (by omega) fun c' f' z4 z5 z6 I' E' hin' hf' => ?_
        refine h c' f' z4 z5 z6 I' E' (fun u hu => ?_) (by rw [List.length_cons]; omega)
        rcases List.mem_cons.mp hu with rfl | hu
        · exact Chn.In.mono E'.ext hin
        · exact hin' u hu
      · obtain ⟨d, rfl⟩ : ∃ e, d = e + 1 := ⟨d - 1, by omega⟩
        have pn := proc_all hk hn hX d (l + 1) (by omega) Q T.reverse c1 (S0 ++ R.reverse.map (tkD l)) f (some (di l)) (some (pD t.g)) (some t.md.D) I1 (fun u hu => hT1 u (List.mem_reverse.mp hu))
          (by rw [List.length_append, List.length_map, List.length_reverse, List.length_reverse]; omega) (by rw [List.length_reverse]; omega) fun c2 f2 z4 z5 z6 I2 E2 hin2 hf2 => ?_
        · rw [List.reverse_reverse] at pn
          exact pn
        · have pr2 := Chn.pr_mono E2.ext
          have prb2 : c2.pr ≤ PB n := Chn.pr_le I2.wf.ok I2.gb
          rw [List.length_reverse] at hf2
          obtain ⟨dC, dB, dI⟩ := G.done I2.wf hl I.comp I.bd hni E2.ext (fun j hj => E2.below j (by omega)) I2.comp I2.bd fun u hu => by
            obtain ⟨v, hv, rfl⟩ := List.mem_map.mp hu
            exact hin2 v (List.mem_reverse.mpr hv)
          have I2' : Chn.CI A B X c2 l := ⟨I2.wf, dC, dB, I2.gb, I2.lok, I2.lb⟩
          have E12 : Chn.CE c c2 l := E1.trans ⟨E2.ext, fun j hj => E2.below j (by omega), E2.lns⟩
          refine ih c2 S0 f2 z4 z5 z6 I2' (fun u hu => (hR u hu).mono E12) (by omega) (by omega) fun c' f' w4 w5 w6 I' E' hin' hf' => ?_
          refine h c' f' w4 w5 w6 I' (E12.trans E') (fun u hu => ?_) (by rw [List.length_cons]; omega)
          rcases List.mem_cons.mp hu with rfl | hu
          · exact Chn.In.mono E'.ext dI
          · exact hin' u hu
end
section
variable {B : Option (List (Pm n))} {cs own : Cs} {k : Nat} {Q : R D → Prop} {A : Pm n → Prop} {X : Nat}
theorem add_ok (hk : k + 2 + 3 * n ≤ cs.length) (hn : n ≤ 60) (hX : X ≤ 1000000) {c : Chn n} {g : Pm n} {ln : Nat} (I : Chn.CI A B X c 0) (hg : Gen A g) (hln : Lw B c.lines ln g)
    (h : ∀ c' : Chn n, Chn.CI A B X c' 0 → Chn.CE c c' 0 → c'.In n 0 g → Q (.v .non (wr cs k c' ++ own))) : got (popped f_Chain_add [.cell k, pD g, di ln] (wr cs k c ++ own)) Q := by
  refine got_poppedC hk (got_fn rfl ?_)
  simp [b_Chain_add, wr_len]
  have P := proc_all (A := A) (B := B) (X := X) (own := own) (y1 := some (pD g)) (y2 := some (di ln)) hk hn hX n 0 rfl
  have pb : PB n ≤ 60 * (60 * 3601) := Nat.mul_le_mul hn (Nat.mul_le_mul hn (by have : n * n ≤ 3600 := Nat.mul_le_mul hn hn; omega))
  have prb : c.pr ≤ PB n := Chn.pr_le I.wf.ok I.gb
  refine P _ [⟨g, .one ln⟩] c [] FUEL none none none I (fun t ht => ?_) (by simp) (by simp [FUEL]; omega) fun c' f' y4 y5 y6 I' E' hin hf => ?_
  · rw [List.mem_singleton] at ht
    subst ht
    exact ⟨Fx.zero _, hg, hln⟩
  · have prb2 : c'.pr ≤ PB n := Chn.pr_le I'.wf.ok I'.gb
    obtain ⟨f, rfl⟩ : ∃ g, f' = g + 1 := ⟨f' - 1, by simp [FUEL] at hf; omega⟩
    refine got_wh1 ?_
    simp [addT, w1a]
    refine ⟨_, _, c', ⟨rfl, rfl⟩, _, frozen_pure rfl, h c' I' E' (hin ⟨g, .one ln⟩ (by simp))⟩
end
end
end Mi
end
section
set_option linter.all false
set_option maxHeartbeats 4000000
namespace Mi
open PySem tb
section
variable {n : Nat}
def Chn.new (n : Nat) : Chn n := { lines := [.still], st := fun i => ⟨[⟨i, 1, 0⟩], [], false⟩ }
def blkL (c : Chn n) (k : Nat) : Cs := (List.range (2 + 3 * n)).map fun r => (blk c k (k + r)).getD default
theorem blk_some {c : Chn n} {k r : Nat} (h : r < 2 + 3 * n) : ∃ x, blk c k (k + r) = some x := by
  unfold blk
  rw [if_neg (by omega)]
  by_cases h0 : k + r = k
  · rw [if_pos h0]; exact ⟨_, rfl⟩
  · rw [if_neg h0]
    by_cases h1 : k + r = k + 1
    · rw [if_pos h1]; exact ⟨_, rfl⟩
    · rw [if_neg h1, if_pos (by omega)]
      split
      · exact ⟨_, rfl⟩
      · split <;> exact ⟨_, rfl⟩
theorem blk_far {c : Chn n} {k j : Nat} (h : j < k ∨ k + 2 + 3 * n ≤ j) : blk c k j = none := by
  unfold blk
  rcases h with h | h
  · rw [if_pos h]
  · rw [if_neg (by omega), if_neg (by omega), if_neg (by omega), if_neg (by omega)]
theorem blkL_len (c : Chn n) (k : Nat) : (blkL c k).length = 2 + 3 * n := by simp [blkL]
theorem blkL_get {c : Chn n} {k r : Nat} (h : r < 2 + 3 * n) : (blkL c k)[r]? = blk c k (k + r) := by
  unfold blkL
  obtain ⟨x, hx⟩ := blk_some (c := c) (k := k) h
  rw [List.getElem?_map, List.getElem?_range h, hx, Option.map_some, hx]
  rfl
theorem mid_get {α : Type} {a b c : List α} {r : Nat} (h : r < b.length) : (a ++ b ++ c)[a.length + r]? = b[r]? := by
  rw [List.append_assoc, List.getElem?_append_right (by omega), Nat.add_sub_cancel_left, List.getElem?_append_left h]
theorem wr_blkL (cs own : Cs) (c c' : Chn n) : wr (cs ++ blkL c cs.length ++ own) cs.length c' = cs ++ blkL c' cs.length ++ own := by
  refine List.ext_getElem? fun j => ?_
  rw [wr_get]
  by_cases h1 : j < cs.length
  · rw [blk_far (.inl h1), List.append_assoc, List.append_assoc, List.getElem?_append_left h1, List.getElem?_append_left h1]
    simp
  · by_cases h2 : j < cs.length + (2 + 3 * n)
    · obtain ⟨r, rfl⟩ : ∃ r, j = cs.length + r := ⟨j - cs.length, by omega⟩
      have hr : r < 2 + 3 * n := by omega
      rw [mid_get (by rw [blkL_len]; exact hr), mid_get (by rw [blkL_len]; exact hr), blkL_get hr, blkL_get hr]
      obtain ⟨x, hx⟩ := blk_some (c := c) (k := cs.length) hr
      obtain ⟨y, hy⟩ := blk_some (c := c') (k := cs.length) hr
      rw [hx, hy]
      rfl
    · rw [blk_far (.inr (by omega)), List.getElem?_append_right (by rw [List.length_append, blkL_len]; omega), List.getElem?_append_right (by rw [List.length_append, blkL_len]; omega)]
      simp [blkL_len]
theorem step_new {cs : Cs} {Q : R D → Prop} {i : Nat} (hn : n ≤ 60) (h : Q (.v (.cell cs.length) (cs ++ [.obj 0 [di i, .cell (cs.length + 1), .cell (cs.length + 2)], .dct [di i] [.tup [pD (1 : Pm n), di 0]], .lst []]))) : got (make' 0 f_Step___init__ [di i, di n] cs) Q := by
  rw [got_make']
  refine got_fn rfl ?_
  simp [b_Step___init__]
  refine still_ok hn ?_
  simp [puts, put]
  have e : cs ++ [Cell.obj 0 [di i, .cell (cs.length + 1), .cell (cs.length + 2)], .dct [di i] [.tup [pD (1 : Pm n), di 0]], .lst []] = cs ++ [Cell.obj 0 [di i, .cell (cs.length + 1), .cell (cs.length + 1 + 1)], .dct [di i] [.tup [pD (1 : Pm n), .int 0]], .lst []] := rfl
  rw [e] at h
  exact h
def newSt (n k i : Nat) : Cs := [.obj 0 [di i, .cell (k + 2 + 3 * i + 1), .cell (k + 2 + 3 * i + 2)], .dct [di i] [.tup [pD (1 : Pm n), di 0]], .lst []]
theorem flat_get {α : Type} {f : Nat → List α} {w : Nat} (hw : ∀ i, (f i).length = w) : ∀ (n i r : Nat), i < n → r < w → ((List.range n).flatMap f)[w * i + r]? = (f i)[r]?
  | 0, i, r, h, _ => absurd h (Nat.not_lt_zero _)
  | n + 1, i, r, h, hr => by
    rw [List.range_succ, List.flatMap_append]
    have hl : ((List.range n).flatMap f).length = w * n := by
      rw [List.length_flatMap]
      have : ((List.range n).map fun a => (f a).length) = List.replicate n w := by
        rw [List.eq_replicate_iff]
        exact ⟨by simp, fun b hb => by obtain ⟨a, _, rfl⟩ := List.mem_map.mp hb; exact hw a⟩
      rw [this, List.sum_replicate_nat, Nat.mul_comm]
    by_cases e : i < n
    · have : w * i + r < w * n := by
        have : w * (i + 1) ≤ w * n := Nat.mul_le_mul_left _ e
        rw [Nat.mul_succ] at this
        omega
      rw [List.getElem?_append_left (by rw [hl]; exact this)]
      exact flat_get hw n i r e hr
    · have : i = n := by omega
      subst this
      rw [List.getElem?_append_right (by rw [hl]; omega), hl, Nat.add_sub_cancel_left]
      simp
theorem new_blkL (n k : Nat) : blkL (Chn.new n) k = [stC n k, .lst [.tup [.str "still"]]] ++ (List.range n).flatMap (newSt n k) := by
  have hw : ∀ i, (newSt n k i).length = 3 := fun i => rfl
  have hl : ((List.range n).flatMap (newSt n k)).length = 3 * n := by
    rw [List.length_flatMap]
    have : ((List.range n).map fun a => (newSt n k a).length) = List.replicate n 3 := by
      rw [List.eq_replicate_iff]
      exact ⟨by simp, fun b hb => by obtain ⟨a, _, rfl⟩ := List.mem_map.mp hb; rfl⟩
    rw [this, List.sum_replicate_nat, Nat.mul_comm]
  refine List.ext_getElem? fun r => ?_
  by_cases h : r < 2 + 3 * n
  · rw [blkL_get h]
    match r, h with
    | 0, _ => rw [Nat.add_zero, blk_0]; rfl
    | 1, _ => rw [blk_1]; rfl
    | r + 2, h =>
      rw [List.getElem?_append_right (by simp)]
      have e : r = 3 * (r / 3) + r % 3 := by omega
      have hi : r / 3 < n := by omega
      have hr : r % 3 < 3 := by omega
      have fg := flat_get (f := newSt n k) hw n (r / 3) (r % 3) hi hr
      rw [← e] at fg
      show _ = ((List.range n).flatMap (newSt n k))[r + 2 - 2]?
      rw [Nat.add_sub_cancel, fg]
      generalize r / 3 = i at *
      have : r % 3 = 0 ∨ r % 3 = 1 ∨ r % 3 = 2 := by omega
      rcases this with h3 | h3 | h3 <;> rw [h3] at e ⊢
      · rw [show k + (r + 2) = k + 2 + 3 * i by omega, blk_s hi]; rfl
      · rw [show k + (r + 2) = k + 2 + 3 * i + 1 by omega, blk_d hi]; rfl
      · rw [show k + (r + 2) = k + 2 + 3 * i + 2 by omega, blk_m hi]; rfl
  · rw [List.getElem?_eq_none (by rw [blkL_len]; omega), List.getElem?_eq_none (by rw [List.length_append, hl]; simp; omega)]
theorem chain_new {cs : Cs} {Q : R D → Prop} (hn : n ≤ 60) (h : Q (.v (.cell cs.length) (cs ++ blkL (Chn.new n) cs.length))) : got (make' 1 f_Chain___init__ [di n] cs) Q := by
  rw [got_make']
  refine got_fn rfl ?_
  simp [b_Chain___init__]
  refine ⟨by omega, ?_⟩
  refine got_lc (fun i acc cs' => acc = (List.range i).map (fun j => D.cell (cs.length + 2 + 3 * j)) ∧ cs' = cs ++ ([Cell.obj 1 [di n, .cell (cs.length + 1)], .lst [.tup [.str "still"]]] ++ (List.range i).flatMap (newSt n cs.length))) ⟨rfl, by simp⟩ (fun _ _ _ _ _ => rfl) (fun i x acc cs' hx hI => ?_) fun acc cs' hI => ?_
  · obtain ⟨rfl, rfl⟩ := hI
    obtain ⟨hi, rfl⟩ := rng_at hx
    have hl : ((List.range i).flatMap (newSt n cs.length)).length = 3 * i := by
      rw [List.length_flatMap]
      have : ((List.range i).map fun a => (newSt n cs.length a).length) = List.replicate i 3 := by
        rw [List.eq_replicate_iff]
        exact ⟨by simp, fun b hb => by obtain ⟨a, _, rfl⟩ := List.mem_map.mp hb; rfl⟩
      rw [this, List.sum_replicate_nat, Nat.mul_comm]
    simp only [gN_def, got_some, eYes, got_eC, testK_bl, if_true, wipe]
    simp [-got_make']
    refine step_new (n := n) hn ?_
    refine ⟨_, _, rfl, by omega, ?_, ?_⟩
    · rw [List.range_succ, List.map_append]
      simp [hl]
      omega
    · rw [List.range_succ, List.flatMap_append]
      simp [newSt, hl]
      omega
  · obtain ⟨rfl, rfl⟩ := hI
    rw [rng_len]
    simp
    rw [new_blkL] at h
    exact h
structure Good (ms : List (Pm n)) (B : Option (List (Pm n))) (X : Nat) (c : Chn n) : Prop where
  ci : Chn.CI (fun g => g ∈ ms) B X c 0
  has : ∀ m ∈ ms, c.In n 0 m
theorem new_good (B : Option (List (Pm n))) (X : Nat) (hX : 1 ≤ X) : Good [] B X (Chn.new n) := by
  have lw : Lw B [Ln.still] 0 (1 : Pm n) := by
    cases B with
    | none => trivial
    | some A => exact .still rfl
  refine ⟨⟨⟨fun l hl => ⟨rfl, by simp [Chn.new], ⟨[], rfl⟩, ?_, (fun m hm => nomatch hm), ?_⟩, (fun l hl m hm => nomatch hm)⟩, (fun j _ _ f hf m hm => nomatch hm), fun j _ hj => ?_, (fun j hj => Nat.zero_le _), ⟨?_, ?_, (fun l hl m hm => nomatch hm)⟩, ?_⟩, (fun m hm => nomatch hm)⟩
  · intro f hf
    rw [List.mem_singleton.mp hf]
    exact ⟨(Fx.sg l).one, by simp⟩
  · intro f hf
    rw [List.mem_singleton.mp hf]
    exact .one
  · have : ∀ d l, (Chn.new n).cnt d l = d := fun d => by
      induction d with
      | zero => intro l; rfl
      | succ d ih => intro l; simp only [Chn.cnt, ih]; simp [Chn.new]; omega
    rw [this]
    simp [Chn.new]
  · cases B with
    | none => trivial
    | some A =>
      intro i hi
      have : i = 0 := by simp [Chn.new] at hi; omega
      subst this
      exact ⟨1, lw⟩
  · intro l hl f hf
    rw [List.mem_singleton.mp hf]
    exact lw
  · simp [Chn.new]
    omega
theorem Chn.CI.mono {A A' : Pm n → Prop} {B : Option (List (Pm n))} {X : Nat} {c : Chn n} {l : Nat} (I : Chn.CI A B X c l) (h : ∀ g, A g → A' g) : Chn.CI A' B X c l := by
  refine { I with wf := ⟨I.wf.ok, fun j hj m hm => ?_⟩ }
  have := I.wf.up j hj m hm
  cases j with
  | zero => exact Gen.mono h this
  | succ j => exact this
theorem Chn.CI.note {A : Pm n → Prop} {B : Option (List (Pm n))} {X : Nat} {c : Chn n} {l : Nat} (I : Chn.CI A B X c l) {x : Ln} {p : Pm n} (h : Lw B (c.lines ++ [x]) c.lines.length p) : Chn.CI A B (X + 1) { c with lines := c.lines ++ [x] } l := by
  refine ⟨⟨I.wf.ok, fun j hj m hm => Chn.up_mono (c := c) ⟨fun _ => List.prefix_refl _, fun _ => List.prefix_refl _⟩ (I.wf.up j hj m hm)⟩, fun j hj hjn f hf m hm => (Chn.In.congr (c := c) (c1 := { c with lines := c.lines ++ [x] }) fun _ _ => rfl).mp (I.comp j hj hjn f hf m hm), fun j hj hjn => by rw [Chn.cnt_congr (c := c) (c1 := { c with lines := c.lines ++ [x] }) fun _ _ => rfl]; exact I.bd j hj hjn, I.gb, ⟨I.lok.al.one h, fun l hl f hf => (I.lok.lifts l hl f hf).app _, fun l hl m hm => (I.lok.ms l hl m hm).app _⟩, ?_⟩
  have := I.lb
  rw [List.length_append, List.length_singleton]
  show _ ≤ c.ph + (X + 1)
  omega
theorem Chn.CI.le {A : Pm n → Prop} {B : Option (List (Pm n))} {X X' : Nat} {c : Chn n} {l : Nat} (I : Chn.CI A B X c l) (h : X ≤ X') : Chn.CI A B X' c l := { I with lb := Nat.le_trans I.lb (Nat.add_le_add_left h _) }
theorem Good.gen {ms : List (Pm n)} {B : Option (List (Pm n))} {X : Nat} {c : Chn n} (h : Good ms B X c) (h1 : 1 ≤ n) (g : Pm n) : c.In n 0 g ↔ Gen (fun g => g ∈ ms) g := by
  obtain ⟨m, rfl⟩ : ∃ m, n = m + 1 := ⟨n - 1, by omega⟩
  have e := Chn.in_gen h.ci.wf h.ci.comp m 0 (by omega) (Nat.le_refl _)
  constructor
  · intro hg
    exact ((e g).mp hg).mono' fun x ⟨m, hm, e⟩ => e ▸ h.ci.wf.up 0 (by omega) m hm
  · intro hg
    refine hg.sub ⟨(e 1).mpr .one, fun {a b} ha hb => ?_, fun {a} ha => ?_⟩ h.has
    · rw [e] at ha hb ⊢
      exact ha.mul hb
    · rw [e] at ha ⊢
      exact ha.inv
end
end Mi
end
section
set_option linter.all false
set_option maxHeartbeats 4000000
namespace Mi
open PySem tb
section
variable {n : Nat}
def Chn.bigs (c : Chn n) : List Nat := (List.range n).filter fun i => decide (1 < (c.st i).lifts.length)
def grpC (g : Nat) (ms : List (Pm n)) (c : Chn n) : Cell := .obj 7 [.lst (ms.map pD), di n, .cell (g + 1), .lst (c.bigs.map fun i => .cell (g + 1 + 2 + 3 * i))]
def grpL (g : Nat) (ms : List (Pm n)) (c : Chn n) : Cs := grpC g ms c :: blkL c (g + 1)
structure CAt (cs : Cs) (k : Nat) (c : Chn n) : Prop where
  eq : wr cs k c = cs
  fit : k + 2 + 3 * n ≤ cs.length
structure GAt (cs : Cs) (g : Nat) (ms : List (Pm n)) (c : Chn n) : Prop extends CAt cs (g + 1) c where
  obj : cs[g]? = some (grpC g ms c)
theorem wr_out {cs own : Cs} {k j : Nat} {c : Chn n} (h : blk c k j = none) (hj : j < cs.length) : (wr cs k c ++ own)[j]? = cs[j]? := by
  rw [List.getElem?_append_left (by rw [wr_len]; exact hj), wr_get, h]
  simp
theorem wr_set_out {cs own : Cs} {k j : Nat} {c : Chn n} {x : Cell} (h : blk c k j = none) (hj : j < cs.length) : (wr cs k c ++ own).set j x = wr (cs.set j x) k c ++ own := by
  rw [List.set_append_left _ _ (by rw [wr_len]; exact hj)]
  congr 1
  refine List.ext_getElem? fun i => ?_
  rw [wr_get]
  by_cases e : j = i
  · subst e
    rw [List.getElem?_set_self (by rw [wr_len]; exact hj), List.getElem?_set_self hj, h]
    rfl
  · rw [List.getElem?_set_ne e, List.getElem?_set_ne e, wr_get]
theorem group_new {cs : Cs} {Q : R D → Prop} {ms : List (Pm n)} (h1 : 1 ≤ n) (hn : n ≤ 60) (hm : ms.length ≤ 200)
    (h : ∀ c : Chn n, Good ms (some ms) 201 c → Q (.v (.cell cs.length) (cs ++ grpL cs.length ms c))) : got (make' 7 f_Group___init__ [di n, .lst (ms.map pD)] cs) Q := by
  rw [got_make']
  refine got_fn rfl ?_
  simp [b_Group___init__, -got_make']
  refine looked_makers_ok ms h1 hn hm ?_
  simp [-got_make']
  refine chain_new hn ?_
  have eb : ∀ (fs : List D) (c : Chn n), cs ++ [Cell.obj 7 fs] ++ blkL c (cs.length + 1) = wr (cs ++ [Cell.obj 7 fs] ++ blkL (Chn.new n) (cs.length + 1) ++ []) (cs.length + 1) c ++ [] := fun fs c => by
    have e := wr_blkL (cs ++ [Cell.obj 7 fs]) [] (Chn.new n) c
    rw [List.length_append, List.length_singleton] at e
    rw [e, List.append_nil, List.append_nil]
  have e0 : (cs ++ [Cell.obj 7 [.lst (ms.map pD), di n]]).length = cs.length + 1 := by simp
  rw [e0]
  have eo : ∀ (fs fs' : List D) (c : Chn n), (cs ++ [Cell.obj 7 fs] ++ blkL c (cs.length + 1)).set cs.length (.obj 7 fs') = cs ++ [Cell.obj 7 fs'] ++ blkL c (cs.length + 1) := fun fs fs' c => by
    rw [List.append_assoc, List.set_append_right _ _ (Nat.le_refl _), Nat.sub_self]
    simp
  have eg : ∀ (fs : List D) (c : Chn n), (cs ++ [Cell.obj 7 fs] ++ blkL c (cs.length + 1))[cs.length]? = some (.obj 7 fs) := fun fs c => by
    rw [List.append_assoc, List.getElem?_append_right (Nat.le_refl _), Nat.sub_self]
    rfl
  have eo1 := eo [.lst (ms.map pD), di n] [.lst (ms.map pD), di n, .cell (cs.length + 1)] (Chn.new n)
  have eg1 := eg [.lst (ms.map pD), di n] (Chn.new n)
  have eg2 := eg [.lst (ms.map pD), di n, .cell (cs.length + 1)] (Chn.new n)
  simp only [List.append_assoc, List.cons_append, List.nil_append] at eo1 eg1 eg2
  simp [eg1, eo1, eg2]
  refine ⟨by omega, ?_⟩
  refine got_for (fun i env cs' => ∃ (c : Chn n) (y3 : Option D), env = [some (.cell cs.length), some (di n), some (.lst (ms.map pD)), y3, none] ∧ cs' = cs ++ [Cell.obj 7 [.lst (ms.map pD), di n, .cell (cs.length + 1)]] ++ blkL c (cs.length + 1) ∧ Good (ms.take i) (some ms) (1 + i) c)
    ⟨Chn.new n, none, rfl, by simp, by rw [List.take_zero]; exact new_good _ _ (Nat.le_refl _)⟩ (fun _ _ _ _ _ => rfl) (fun i x env cs' hx hI => ?_) fun env cs' hI => ?_
  · obtain ⟨c, y3, rfl, rfl, G⟩ := hI
    obtain ⟨hi, rfl⟩ := rng_at hx
    obtain ⟨p, hp⟩ : ∃ p, ms[i]? = some p := ⟨_, List.getElem?_eq_getElem hi⟩
    have q1 : atI (ms.map pD) (i : Int) = some (pD p) := atI_nat (by rw [List.getElem?_map, hp]; rfl)
    have eg3 := eg [.lst (ms.map pD), di n, .cell (cs.length + 1)] c
    have hk : cs.length + 1 + 2 + 3 * n ≤ (cs ++ [Cell.obj 7 [.lst (ms.map pD), di n, .cell (cs.length + 1)]] ++ blkL (Chn.new n) (cs.length + 1) ++ []).length := by
      simp [blkL_len]
      omega
    have ew := eb [.lst (ms.map pD), di n, .cell (cs.length + 1)]
    have es : ∀ c : Chn n, (wr (cs ++ [Cell.obj 7 [.lst (ms.map pD), di n, .cell (cs.length + 1)]] ++ blkL (Chn.new n) (cs.length + 1) ++ []) (cs.length + 1) c ++ [])[cs.length + 1]? = some (stC n (cs.length + 1)) := fun c => wr_0 hk
    have eg4 : ∀ c : Chn n, (wr (cs ++ [Cell.obj 7 [.lst (ms.map pD), di n, .cell (cs.length + 1)]] ++ blkL (Chn.new n) (cs.length + 1) ++ []) (cs.length + 1) c ++ [])[cs.length]? = some (.obj 7 [.lst (ms.map pD), di n, .cell (cs.length + 1)]) := fun c => by rw [← ew]; exact eg _ _
    rw [ew c]
    generalize eY : cs ++ [Cell.obj 7 [.lst (ms.map pD), di n, .cell (cs.length + 1)]] ++ blkL (Chn.new n) (cs.length + 1) ++ [] = Y at *
    have l0 := Chn.ph_le G.ci.wf.ok G.ci.gb
    have : n * (3 * (n * n + 1) + n) ≤ 60 * (3 * 3601 + 60) := Nat.mul_le_mul hn (by have : n * n ≤ 3600 := Nat.mul_le_mul hn hn; omega)
    have lb := G.ci.lb
    have lw : Lw (some ms) (c.lines ++ [.told i]) c.lines.length p := .told (last_get _ _) hp
    have I2 := G.ci.note lw
    have tk : ms.take (i + 1) = ms.take i ++ [p] := by rw [List.take_add_one, hp]; rfl
    have I3 := I2.mono (A' := fun g => g ∈ ms.take (i + 1)) fun g hg => by rw [tk]; exact List.mem_append_left _ hg
    simp only [List.append_nil] at eg4 es ⊢
    simp [eg4, es, stC, q1]
    rw [← List.append_nil (wr Y (cs.length + 1) c)]
    refine noted_ok hk (.told i) (by omega) ?_
    simp
    rw [← List.append_nil (wr Y (cs.length + 1) _)]
    refine add_ok hk hn (X := 1 + i + 1) (by omega) I3 (.of (by rw [tk]; simp)) lw fun c' I' E' hin => ?_
    simp
    refine ⟨c', ?_, ?_⟩
    · have := ew c'
      rw [List.append_nil] at this
      rw [← this]
      simp
    · rw [show 1 + (i + 1) = 1 + i + 1 by omega]
      refine ⟨I', fun m hm => ?_⟩
      rw [tk] at hm
      rcases List.mem_append.mp hm with hm | hm
      · have := G.has m hm
        refine Chn.In.mono E'.ext ?_
        exact (Chn.In.congr (c := c) (c1 := { c with lines := c.lines ++ [.told i] }) fun _ _ => rfl).mp this
      · rw [List.mem_singleton.mp hm]
        exact hin
  · obtain ⟨c, y3, rfl, rfl, G⟩ := hI
    rw [rng_len, List.take_length] at G
    have ew := eb [.lst (ms.map pD), di n, .cell (cs.length + 1)] c
    have eg3 := eg [.lst (ms.map pD), di n, .cell (cs.length + 1)] c
    have hk : cs.length + 1 + 2 + 3 * n ≤ (cs ++ [Cell.obj 7 [.lst (ms.map pD), di n, .cell (cs.length + 1)]] ++ blkL (Chn.new n) (cs.length + 1) ++ []).length := by
      simp [blkL_len]
      omega
    have e1 : (cs ++ [Cell.obj 7 [.lst (ms.map pD), di n, .cell (cs.length + 1)]] ++ blkL c (cs.length + 1))[cs.length + 1]? = some (stC n (cs.length + 1)) := by rw [ew]; exact wr_0 hk
    have e2 : ∀ i, i < n → (cs ++ [Cell.obj 7 [.lst (ms.map pD), di n, .cell (cs.length + 1)]] ++ blkL c (cs.length + 1))[cs.length + 1 + 2 + 3 * i]? = some (.obj 0 [di i, .cell (cs.length + 1 + 2 + 3 * i + 1), .cell (cs.length + 1 + 2 + 3 * i + 2)]) := fun i hi => by rw [ew]; exact wr_s hk hi
    have e3 : ∀ i, i < n → (cs ++ [Cell.obj 7 [.lst (ms.map pD), di n, .cell (cs.length + 1)]] ++ blkL c (cs.length + 1))[cs.length + 1 + 2 + 3 * i + 1]? = some (c.st i).dc := fun i hi => by rw [ew]; exact wr_d hk hi
    have eo2 := eo [.lst (ms.map pD), di n, .cell (cs.length + 1)] [.lst (ms.map pD), di n, .cell (cs.length + 1), .lst (c.bigs.map fun i => .cell (cs.length + 1 + 2 + 3 * i))] c
    generalize eY : cs ++ [Cell.obj 7 [.lst (ms.map pD), di n, .cell (cs.length + 1)]] ++ blkL c (cs.length + 1) = Y at *
    simp [eg3, e1, stC]
    refine got_lc_filter (fun d => match d with | .cell j => decide (1 < (c.st ((j - (cs.length + 1 + 2)) / 3)).lifts.length) | _ => false) id rfl (by simp; omega) (fun x hx => ?_) ?_
    · obtain ⟨i, hi, rfl⟩ := List.mem_map.mp hx
      have hi' := List.mem_range.mp hi
      have e4 : (cs.length + 1 + 2 + 3 * i - (cs.length + 1 + 2)) / 3 = i := by omega
      simp [wipe, e2 i hi', e3 i hi', dctU_dc (G.ci.wf.ok i hi').free, e4, Stp.keys]
      omega
    · have ebig : List.map id (List.filter (fun d => match d with | D.cell j => decide (1 < (c.st ((j - (cs.length + 1 + 2)) / 3)).lifts.length) | _ => false) (List.map (fun i => D.cell (cs.length + 1 + 2 + 3 * i)) (List.range n))) = c.bigs.map fun i => .cell (cs.length + 1 + 2 + 3 * i) := by
        rw [List.map_id, List.filter_map]
        unfold Chn.bigs
        congr 1
        refine List.filter_congr fun i hi => ?_
        have e4 : (cs.length + 1 + 2 + 3 * i - (cs.length + 1 + 2)) / 3 = i := by omega
        simp [e4]
      rw [ebig]
      simp [eg3, eo2]
      have := h c ⟨G.ci.le (by omega), G.has⟩
      unfold grpL grpC at this
      exact this
theorem grp_at {cs own : Cs} {ms : List (Pm n)} {c : Chn n} : GAt (cs ++ grpL cs.length ms c ++ own) cs.length ms c := by
  have e : cs ++ grpL cs.length ms c ++ own = cs ++ [grpC cs.length ms c] ++ blkL c (cs.length + 1) ++ own := by simp [grpL]
  rw [e]
  refine ⟨⟨?_, ?_⟩, ?_⟩
  · have := wr_blkL (cs ++ [grpC cs.length ms c]) own c c
    rwa [List.length_append, List.length_singleton] at this
  · simp [blkL_len]
    omega
  · simp
end
end Mi
end
section
set_option linter.all false
namespace Mi
open PySem
def Pm.lt {n : Nat} (p q : Pm n) : Prop := ∃ i, p i < q i ∧ ∀ j, j < i → p j = q j
section
variable {n : Nat}
theorem Pm.lt_irrefl {p : Pm n} : ¬ p.lt p := fun ⟨i, h, _⟩ => Nat.lt_irrefl _ h
theorem Pm.lt_trans {p q r : Pm n} (h : p.lt q) (h2 : q.lt r) : p.lt r := by
  obtain ⟨i, a, b⟩ := h
  obtain ⟨j, c, d⟩ := h2
  by_cases e : i < j
  · exact ⟨i, by rw [← d i e]; exact a, fun k hk => (b k hk).trans (d k (by omega))⟩
  · by_cases e2 : i = j
    · subst e2
      exact ⟨i, by omega, fun k hk => (b k hk).trans (d k hk)⟩
    · exact ⟨j, by rw [b j (by omega)]; exact c, fun k hk => (b k (by omega)).trans (d k hk)⟩
theorem Pm.lt_asymm {p q : Pm n} (h : p.lt q) (h2 : q.lt p) : False := Pm.lt_irrefl (Pm.lt_trans h h2)
theorem Pm.lt_or {p q : Pm n} (h : p ≠ q) : p.lt q ∨ q.lt p := by
  classical
  have : ∃ i, p i ≠ q i := Classical.byContradiction fun hc => h (Pm.ext' fun i => Classical.byContradiction fun hi => hc ⟨i, hi⟩)
  have ⟨i, hi, hm⟩ : ∃ i, p i ≠ q i ∧ ∀ j, j < i → p j = q j := by
    obtain ⟨i, hi⟩ := this
    induction i using Nat.strongRecOn with
    | ind i ih =>
      by_cases hc : ∀ j, j < i → p j = q j
      · exact ⟨i, hi, hc⟩
      · have ⟨j, hj⟩ : ∃ j, j < i ∧ p j ≠ q j := Classical.byContradiction fun h => hc fun j hj => Classical.byContradiction fun he => h ⟨j, hj, he⟩
        exact ih j hj.1 hj.2
  rcases Nat.lt_or_gt_of_ne hi with h | h
  · exact .inl ⟨i, h, hm⟩
  · exact .inr ⟨i, h, fun j hj => (hm j hj).symm⟩
namespace Chn
variable {c : Chn n}
abbrev Ok (c : Chn n) : Prop := ∀ l, l < n → SOk (c.st l) l
theorem in_fx (ok : c.Ok) {g : Pm n} : ∀ {l : Nat}, l ≤ n → (c.In (n - l) l g ↔ c.In n 0 g ∧ Fx l g)
  | 0, _ => by simp [Fx.zero]
  | l + 1, h => by
    have ih := in_fx ok (g := g) (l := l) (by omega)
    have o := ok l (by omega)
    have nl : n - l = (n - (l + 1)) + 1 := by omega
    constructor
    · intro hg
      have f := In.fx ok (by omega) hg
      refine ⟨(ih.mp ?_).1, f⟩
      obtain ⟨r, er⟩ := o.head
      have := In.mul_lift (c := c) (d := n - (l + 1)) (l := l) ok (by omega) hg (f := ⟨l, 1, 0⟩) (by rw [er]; exact List.mem_cons_self)
      rw [Pm.mul_one] at this
      rw [nl]
      exact this
    · rintro ⟨hg, hf⟩
      have := ih.mpr ⟨hg, hf.le (by omega)⟩
      rw [nl] at this
      obtain ⟨f, h1, h2⟩ := this
      rw [hf l (Nat.lt_succ_self l), o.find_self] at h1
      cases h1
      simpa using h2
theorem key_iff (ok : c.Ok) {l x : Nat} (hl : l < n) : (∃ f ∈ (c.st l).lifts, f.key = x) ↔ ∃ g, c.In (n - l) l g ∧ g l = x := by
  have o := ok l hl
  have nl : n - l = (n - (l + 1)) + 1 := by omega
  constructor
  · rintro ⟨f, hf, rfl⟩
    refine ⟨f.g, ?_, (o.lift f hf).2⟩
    have := In.mul_lift (c := c) (d := n - (l + 1)) (l := l) ok (by omega) (in_one ok (by omega)) hf
    rw [Pm.one_mul] at this
    rw [nl]
    exact this
  · rintro ⟨g, hg, rfl⟩
    rw [nl] at hg
    obtain ⟨f, h1, _⟩ := hg
    exact ⟨f, (find_mem h1).1, (find_mem h1).2⟩
def sz (c : Chn n) : Nat → Nat → Nat
  | 0, _ => 1
  | d + 1, l => (c.st l).lifts.length * c.sz d (l + 1)
theorem sz_pos (ok : c.Ok) : ∀ {d l : Nat}, d + l = n → 0 < c.sz d l
  | 0, _, _ => Nat.one_pos
  | d + 1, l, e => by
    obtain ⟨r, er⟩ := (ok l (by omega)).head
    refine Nat.mul_pos (by rw [er]; simp) (sz_pos ok (by omega))
theorem sz_card (ok : c.Ok) : ∀ {d l : Nat}, d + l = n → Card (c.In d l) (c.sz d l)
  | 0, l, e => ⟨[1], by simp, fun x => by simp [In], rfl⟩
  | d + 1, l, e => by
    obtain ⟨L, nd, hm, hl⟩ := sz_card ok (d := d) (l := l + 1) (by omega)
    have o := ok l (by omega)
    refine ⟨(c.st l).lifts.flatMap fun f => L.map (· * f.g), ?_, fun x => ?_, ?_⟩
    · rw [List.Nodup, List.pairwise_flatMap]
      refine ⟨fun f _ => ?_, ?_⟩
      · rw [List.pairwise_map]
        exact List.Pairwise.imp (fun hab e => hab (Pm.mul_right_cancel e)) nd
      · have := o.nodup
        rw [List.Nodup, List.pairwise_map] at this
        refine List.Pairwise.imp_of_mem (fun {f f'} hf hf' hne x hx y hy e' => hne ?_) this
        obtain ⟨a, ha, rfl⟩ := List.mem_map.mp hx
        obtain ⟨b, hb, rfl⟩ := List.mem_map.mp hy
        have fa := In.fx ok (by omega) ((hm a).mp ha) l (Nat.lt_succ_self l)
        have fb := In.fx ok (by omega) ((hm b).mp hb) l (Nat.lt_succ_self l)
        have := congrArg (fun p : Pm n => p l) e'
        simp only [Pm.mul_ap, fa, fb, (o.lift f hf).2, (o.lift f' hf').2] at this
        exact this
    · rw [List.mem_flatMap]
      constructor
      · rintro ⟨f, hf, hx⟩
        obtain ⟨a, ha, rfl⟩ := List.mem_map.mp hx
        exact In.mul_lift ok e ((hm a).mp ha) hf
      · intro hx
        obtain ⟨k, f, hk, hf, rfl⟩ := hx.split
        exact ⟨f, hf, List.mem_map.mpr ⟨k, (hm k).mpr hk, rfl⟩⟩
    · rw [List.length_flatMap]
      have : ((c.st l).lifts.map fun f => (L.map (· * f.g)).length) = List.replicate (c.st l).lifts.length (c.sz d (l + 1)) := by
        rw [List.eq_replicate_iff]
        refine ⟨by simp, fun b hb => ?_⟩
        obtain ⟨f, _, rfl⟩ := List.mem_map.mp hb
        rw [List.length_map, hl]
      rw [this, List.sum_replicate_nat]
      rfl
inductive Lst (c : Chn n) : Nat → Nat → Pm n → Pm n → Prop where
  | z {l g} : Lst c 0 l g g
  | s {d l g f r} : f ∈ (c.st l).lifts → (∀ f' ∈ (c.st l).lifts, g f.key ≤ g f'.key) → Lst c d (l + 1) (f.g * g) r → Lst c (d + 1) l g r
theorem Lst.in_ (ok : c.Ok) : ∀ {d l : Nat} {g r : Pm n}, d + l = n → Lst c d l g r → ∃ h, c.In d l h ∧ r = h * g
  | 0, l, g, _, e, .z => ⟨1, rfl, by simp⟩
  | d + 1, l, g, r, e, .s hf _ h => by
    obtain ⟨k, hk, rfl⟩ := Lst.in_ ok (by omega) h
    exact ⟨_, In.mul_lift ok e hk hf, by rw [Pm.mul_assoc]⟩
theorem Lst.least (ok : c.Ok) : ∀ {d l : Nat} {g r : Pm n}, d + l = n → Lst c d l g r → ∀ h, c.In d l h → h * g = r ∨ r.lt (h * g)
  | 0, l, g, _, e, .z, h, hh => by
    have hh : h = 1 := hh
    subst hh
    simp
  | d + 1, l, g, r, e, .s (f := f) hf hmin h2, h, hh => by
    have o := ok l (by omega)
    obtain ⟨k, f', hk, hf', rfl⟩ := hh.split
    obtain ⟨k2, hk2, e2⟩ := Lst.in_ ok (by omega) h2
    have r1 : r l = g f.key := by
      rw [e2, Pm.mul_ap, Pm.mul_ap, In.fx (l := l + 1) ok (by omega) hk2 l (Nat.lt_succ_self l), (o.lift f hf).2]
    have r2 : (k * f'.g * g) l = g f'.key := by
      rw [Pm.mul_ap, Pm.mul_ap, In.fx (l := l + 1) ok (by omega) hk l (Nat.lt_succ_self l), (o.lift f' hf').2]
    have m := hmin f' hf'
    by_cases he : f'.key = f.key
    · have : f' = f := by
        have h1 := find_of o.nodup hf
        have h2 := find_of o.nodup hf'
        rw [he, h1] at h2
        exact (Option.some.inj h2).symm
      subst this
      rw [Pm.mul_assoc]
      exact Lst.least ok (by omega) h2 k hk
    · right
      refine ⟨l, ?_, fun j hj => ?_⟩
      · rw [r1, r2]
        refine Nat.lt_of_le_of_ne m fun h => he (g.inj h.symm)
      · rw [e2, Pm.mul_ap, Pm.mul_ap, In.fx (l := l + 1) ok (by omega) hk2 j (by omega), (o.lift f hf).1 j hj, Pm.mul_ap, Pm.mul_ap, In.fx (l := l + 1) ok (by omega) hk j (by omega), (o.lift f' hf').1 j hj]
def dig (c : Chn n) (l : Nat) (p : Pm n) (v : Nat) : Nat := (c.st l).lifts.countP fun f => decide (p f.key < v)
def pl (c : Chn n) : Nat → Nat → Pm n → Nat
  | 0, _, _ => 0
  | d + 1, l, r => c.dig l r (r l) * c.sz d (l + 1) + c.pl d (l + 1) r
inductive Nth (c : Chn n) : Nat → Nat → Nat → Pm n → Pm n → Prop where
  | z {l p} : Nth c 0 l 0 p p
  | s {d l k p f r} : f ∈ (c.st l).lifts → c.dig l p (p f.key) = k / c.sz d (l + 1) → Nth c d (l + 1) (k % c.sz d (l + 1)) (f.g * p) r → Nth c (d + 1) l k p r
theorem key_perm (ok : c.Ok) {l : Nat} (hl : l < n) {u : Pm n} (hu : c.In (n - l) l u) (sg : ∀ a b, c.In (n - l) l a → c.In (n - l) l b → c.In (n - l) l (a * b)) : (((c.st l).lifts.map Lf.key).map u).Perm ((c.st l).lifts.map Lf.key) := by
  have o := ok l hl
  have nd : (((c.st l).lifts.map Lf.key).map u).Nodup := by
    rw [List.Nodup, List.pairwise_map]
    exact List.Pairwise.imp (fun hab e => hab (u.inj e)) o.nodup
  have sub : ∀ x ∈ ((c.st l).lifts.map Lf.key).map u, x ∈ (c.st l).lifts.map Lf.key := fun x hx => by
    obtain ⟨y, hy, rfl⟩ := List.mem_map.mp hx
    obtain ⟨f, hf, rfl⟩ := List.mem_map.mp hy
    obtain ⟨g, hg, e⟩ := (key_iff ok hl).mp ⟨f, hf, rfl⟩
    obtain ⟨f', hf', e'⟩ := (key_iff ok hl).mpr ⟨g * u, sg _ _ hg hu, rfl⟩
    rw [Pm.mul_ap, e] at e'
    exact List.mem_map.mpr ⟨f', hf', e'⟩
  exact (List.perm_ext_iff_of_nodup nd o.nodup).mpr fun x => ⟨sub x, fun hx => nodup_sup nd sub (by simp) x hx⟩
theorem dig_perm (ok : c.Ok) {l : Nat} (hl : l < n) {u p : Pm n} (hu : c.In (n - l) l u) (sg : ∀ a b, c.In (n - l) l a → c.In (n - l) l b → c.In (n - l) l (a * b)) (v : Nat) : c.dig l (u * p) v = c.dig l p v := by
  have h := (key_perm ok hl hu sg).countP_eq fun x => decide (p x < v)
  rw [List.countP_map, List.countP_map, List.countP_map] at h
  unfold dig
  simpa [Function.comp_def] using h
theorem dig_inj {l : Nat} {p : Pm n} {f f' : Lf n} (hf : f ∈ (c.st l).lifts) (hf' : f' ∈ (c.st l).lifts) (h : c.dig l p (p f.key) = c.dig l p (p f'.key)) : p f.key = p f'.key := by
  have aux : ∀ (L : List (Lf n)) {a b : Nat}, a < b → (∃ f ∈ L, p f.key = a) → L.countP (fun f => decide (p f.key < a)) < L.countP fun f => decide (p f.key < b) := fun L => by
    induction L with
    | nil => rintro a b _ ⟨f, hf, _⟩; cases hf
    | cons x r ih =>
      rintro a b hab ⟨f, hf, e⟩
      rw [List.countP_cons, List.countP_cons]
      have mono : r.countP (fun f => decide (p f.key < a)) ≤ r.countP fun f => decide (p f.key < b) := List.countP_mono_left fun y _ hy => by
        simp at hy ⊢
        omega
      rcases List.mem_cons.mp hf with rfl | hf
      · have e1 : ¬ p f.key < a := by omega
        have e2 : p f.key < b := by omega
        simp only [e1, e2, decide_true, decide_false, if_true]
        simp
        omega
      · have := ih hab ⟨f, hf, e⟩
        by_cases e1 : p x.key < a
        · have e2 : p x.key < b := by omega
          simp only [e1, e2, decide_true, if_true]
          omega
        · simp only [e1, decide_false]
          simp
          omega
  rcases Nat.lt_trichotomy (p f.key) (p f'.key) with hlt | he | hgt
  · have := aux (c.st l).lifts hlt ⟨f, hf, rfl⟩
    unfold dig at h
    omega
  · exact he
  · have := aux (c.st l).lifts hgt ⟨f', hf', rfl⟩
    unfold dig at h
    omega
theorem Nth.uniq (ok : c.Ok) : ∀ {d l k : Nat} {p r r' : Pm n}, d + l = n → Nth c d l k p r → Nth c d l k p r' → r = r'
  | 0, _, _, _, _, _, _, .z, .z => rfl
  | d + 1, l, k, p, r, r', e, .s (f := f) hf hd h, .s (f := f') hf' hd' h' => by
    have o := ok l (by omega)
    have := p.inj (dig_inj hf hf' (hd.trans hd'.symm))
    have : f' = f := by
      have h1 := find_of o.nodup hf
      have h2 := find_of o.nodup hf'
      rw [← this, h1] at h2
      exact (Option.some.inj h2).symm
    subst this
    exact Nth.uniq ok (by omega) h h'
theorem dig_lt (ok : c.Ok) {l : Nat} (hl : l < n) {p : Pm n} {f : Lf n} (hf : f ∈ (c.st l).lifts) : c.dig l p (p f.key) < (c.st l).lifts.length := by
  unfold dig
  have : (c.st l).lifts.countP (fun g => decide (p g.key < p f.key)) ≠ (c.st l).lifts.length := fun e => by
    have := List.countP_eq_length.mp e f hf
    simp at this
  have := List.countP_le_length (p := fun g : Lf n => decide (p g.key < p f.key)) (l := (c.st l).lifts)
  omega
theorem pl_lt (ok : c.Ok) (sg : ∀ l, l < n → ∀ a b, c.In (n - l) l a → c.In (n - l) l b → c.In (n - l) l (a * b)) : ∀ {d l : Nat} {h p : Pm n}, d + l = n → c.In d l h → c.pl d l (h * p) < c.sz d l
  | 0, _, _, _, _, _ => Nat.one_pos
  | d + 1, l, h, p, e, hh => by
    have hl : l < n := by omega
    have hh' : c.In (n - l) l h := by rw [show n - l = d + 1 by omega]; exact hh
    obtain ⟨k, f, hk, hf, rfl⟩ := hh.split
    have kf := In.fx (l := l + 1) ok (by omega) hk l (Nat.lt_succ_self l)
    have e1 : (k * f.g * p) l = p f.key := by rw [Pm.mul_ap, Pm.mul_ap, kf, ((ok l hl).lift f hf).2]
    have := pl_lt ok sg (p := f.g * p) (by omega) hk
    simp only [pl, sz]
    rw [e1, dig_perm ok hl hh' (sg l hl), Pm.mul_assoc]
    have d1 := dig_lt ok hl (p := p) hf
    have : (c.dig l p (p f.key) + 1) * c.sz d (l + 1) ≤ (c.st l).lifts.length * c.sz d (l + 1) := Nat.mul_le_mul_right _ d1
    rw [Nat.add_mul, Nat.one_mul] at this
    omega
theorem nth_pl (ok : c.Ok) (sg : ∀ l, l < n → ∀ a b, c.In (n - l) l a → c.In (n - l) l b → c.In (n - l) l (a * b)) : ∀ {d l : Nat} {h p : Pm n}, d + l = n → c.In d l h → Nth c d l (c.pl d l (h * p)) p (h * p)
  | 0, _, h, p, _, hh => by
    have hh : h = 1 := hh
    subst hh
    rw [Pm.one_mul]
    exact .z
  | d + 1, l, h, p, e, hh => by
    have hl : l < n := by omega
    have hh' : c.In (n - l) l h := by rw [show n - l = d + 1 by omega]; exact hh
    obtain ⟨k, f, hk, hf, rfl⟩ := hh.split
    have kf := In.fx (l := l + 1) ok (by omega) hk l (Nat.lt_succ_self l)
    have e1 : (k * f.g * p) l = p f.key := by rw [Pm.mul_ap, Pm.mul_ap, kf, ((ok l hl).lift f hf).2]
    have lt := pl_lt ok sg (p := f.g * p) (by omega) hk
    have ih := nth_pl ok sg (p := f.g * p) (by omega) hk
    have sp := sz_pos ok (c := c) (d := d) (l := l + 1) (by omega)
    have epl : c.pl (d + 1) l (k * f.g * p) = c.dig l p (p f.key) * c.sz d (l + 1) + c.pl d (l + 1) (k * (f.g * p)) := by
      simp only [pl]
      rw [e1, dig_perm ok hl hh' (sg l hl), Pm.mul_assoc]
    refine .s hf ?_ ?_
    · rw [epl, Nat.mul_comm, Nat.mul_add_div sp, Nat.div_eq_of_lt lt, Nat.add_zero]
    · rw [epl, Nat.mul_comm, Nat.mul_add_mod, Nat.mod_eq_of_lt lt, Pm.mul_assoc]
      exact ih
theorem Nth.in_ (ok : c.Ok) : ∀ {d l k : Nat} {p r : Pm n}, d + l = n → Nth c d l k p r → ∃ h, c.In d l h ∧ r = h * p
  | 0, l, _, p, _, e, .z => ⟨1, rfl, by simp⟩
  | d + 1, l, k, p, r, e, .s hf _ h => by
    obtain ⟨k, hk, rfl⟩ := Nth.in_ ok (by omega) h
    exact ⟨_, In.mul_lift ok e hk hf, by rw [Pm.mul_assoc]⟩
end Chn
theorem Good.ok {ms : List (Pm n)} {B : Option (List (Pm n))} {X : Nat} {c : Chn n} (h : Good ms B X c) : c.Ok := h.ci.wf.ok
theorem Good.mul {ms : List (Pm n)} {B : Option (List (Pm n))} {X : Nat} {c : Chn n} (h : Good ms B X c) : ∀ l, l < n → ∀ a b, c.In (n - l) l a → c.In (n - l) l b → c.In (n - l) l (a * b) := fun l hl a b ha hb => by
  have e := Chn.in_gen h.ci.wf h.ci.comp (n - l - 1) l (by omega) (Nat.zero_le _)
  rw [show n - l - 1 + 1 = n - l by omega] at e
  rw [e] at ha hb ⊢
  exact ha.mul hb
end
end Mi
end
section
set_option linter.all false
set_option maxHeartbeats 2000000
namespace Mi
open PySem tb
section
variable {n : Nat} {cs : Cs} {k : Nat} {c : Chn n} {Q : R D → Prop}
theorem CAt.eq' (h : CAt cs k c) : wr cs k c ++ [] = cs := by rw [List.append_nil, h.eq]
theorem CAt.at0 (h : CAt cs k c) : cs[k]? = some (stC n k) := by
  have := wr_0 (own := []) (c := c) h.fit
  rwa [h.eq'] at this
theorem CAt.at1 (h : CAt cs k c) : cs[k + 1]? = some (.lst (c.lines.map Ln.D)) := by
  have := wr_1 (own := []) (c := c) h.fit
  rwa [h.eq'] at this
theorem CAt.ats (h : CAt cs k c) {i : Nat} (hi : i < n) : cs[k + 2 + 3 * i]? = some (.obj 0 [di i, .cell (k + 2 + 3 * i + 1), .cell (k + 2 + 3 * i + 2)]) := by
  have := wr_s (own := []) (c := c) h.fit hi
  rwa [h.eq'] at this
theorem CAt.atd (h : CAt cs k c) {i : Nat} (hi : i < n) (hf : (c.st i).lk = false) : cs[k + 2 + 3 * i + 1]? = some (.dct (c.st i).keys ((c.st i).lifts.map liftD)) := by
  have := wr_d (own := []) (c := c) h.fit hi
  rw [h.eq'] at this
  rw [this]
  unfold Stp.dc
  rw [hf]
  rfl
theorem set_back {x y : Cell} {j : Nat} (h : cs[j]? = some x) : (cs.set j y).set j x = cs := by
  rw [List.set_set]
  refine List.ext_getElem? fun i => ?_
  by_cases e : j = i
  · subst e
    rw [List.getElem?_set_self (List.getElem?_eq_some_iff.mp h).1, h]
  · rw [List.getElem?_set_ne e]
theorem set_same_at {x : Cell} {j : Nat} (h : cs[j]? = some x) : cs.set j x = cs := by
  have := set_back (y := x) h
  rwa [List.set_set] at this
theorem rest_at (h : CAt cs k c) (hn : n ≤ 60) (g : Pm n) {l : Nat} (hl : l ≤ n) (q : Q (.v (.tup [di (c.rest (n - l) l g).1, pD (c.rest (n - l) l g).2]) cs)) : got (popped f_Chain_rest [.cell k, pD g, di l] cs) Q := by
  have := rest_ok (own := []) (Q := Q) h.fit hn c g hl (by rw [h.eq']; exact q)
  rwa [h.eq'] at this
theorem chain_has (h : CAt cs k c) (hn : n ≤ 60) (ok : c.Ok) (g : Pm n) (q : ∀ b : Bool, (b = true ↔ c.In n 0 g) → Q (.v (.bl b) cs)) : got (popped f_Chain_has [.cell k, pD g] cs) Q := by
  refine got_popped (got_fn rfl ?_)
  simp [b_Chain_has, h.at0, stC]
  refine rest_at h hn g (Nat.zero_le _) ?_
  rw [Nat.sub_zero]
  simp [h.at0, stC]
  have r := Chn.rest_in ok (d := n) (l := 0) (g := g) rfl (Fx.zero g)
  refine ⟨_, [], ⟨rfl, by simp⟩, _, frozen_pure rfl, q _ ?_⟩
  rw [decide_eq_true_iff]
  constructor
  · intro e
    rcases r with ⟨_, _, i⟩ | ⟨a, _⟩
    · exact i
    · omega
  · intro i
    rcases r with ⟨a, _, _⟩ | ⟨_, b⟩
    · rw [a]
    · exact absurd i b
theorem pow_log {a b : Nat} (h : a ≤ 60 ^ b) (hb : b ≤ 60) : a.log2 < 400 := by
  by_cases h0 : a = 0
  · subst h0
    decide
  · refine (Nat.log2_lt h0).mpr ?_
    have : (60 : Nat) ^ b ≤ 60 ^ 60 := Nat.pow_le_pow_right (by decide) hb
    have e : (60 : Nat) ^ 60 < 2 ^ 400 := by decide +kernel
    exact Nat.lt_of_le_of_lt (Nat.le_trans h this) e
theorem sz_le (ok : c.Ok) (hn : n ≤ 60) : ∀ d l, d + l = n → c.sz d l ≤ 60 ^ d
  | 0, _, _ => Nat.le_refl _
  | d + 1, l, e => by
    have := sz_le ok hn d (l + 1) (by omega)
    have := (ok l (by omega)).len_le (by omega)
    simp only [Chn.sz]
    rw [Nat.pow_succ, Nat.mul_comm]
    exact Nat.mul_le_mul (by assumption) (by omega)
theorem chain_size (h : CAt cs k c) (hn : n ≤ 60) (ok : c.Ok) (q : Q (.v (di (c.sz n 0)) cs)) : got (popped f_Chain_size [.cell k] cs) Q := by
  refine got_popped (got_fn rfl ?_)
  simp [b_Chain_size, h.at0, stC]
  refine got_for (fun i env cs' => ∃ (m : Nat) (y2 : Option D), env = [some (.cell k), some (di m), y2] ∧ cs' = cs ∧ m * c.sz (n - i) i = c.sz n 0 ∧ m ≤ 60 ^ i) ⟨1, none, rfl, rfl, by simp, Nat.le_refl _⟩ (fun _ _ _ _ _ => rfl) (fun i x env cs' hx hI => ?_) fun env cs' hI => ?_
  · obtain ⟨m, y2, rfl, rfl, e, hm⟩ := hI
    rw [List.getElem?_map] at hx
    obtain ⟨j, hj, rfl⟩ := Option.map_eq_some_iff.mp hx
    have hi : i < n := by have := (List.getElem?_eq_some_iff.mp hj).1; rwa [List.length_range] at this
    rw [List.getElem?_range hi] at hj
    cases hj
    have ll := (ok i hi).len_le hi
    have l1 := pow_log hm (by omega)
    have l2 := pow_log (a := (c.st i).lifts.length) (b := 1) (by omega) (by omega)
    simp [h.ats hi, h.atd hi (ok i hi).free, Stp.keys]
    refine ⟨by omega, m * (c.st i).lifts.length, by simp, ?_, ?_⟩
    · rw [show n - i = (n - (i + 1)) + 1 by omega] at e
      simp only [Chn.sz] at e
      rw [Nat.mul_assoc]
      exact e
    · rw [Nat.pow_succ]
      exact Nat.mul_le_mul hm (by omega)
  · obtain ⟨m, y2, rfl, rfl, e, hm⟩ := hI
    rw [List.length_map, List.length_range, Nat.sub_self] at e
    simp
    refine ⟨_, [], ⟨rfl, by simp⟩, _, frozen_pure rfl, ?_⟩
    simp only [Chn.sz, Nat.mul_one] at e
    rw [e]
    exact q
theorem chain_least (h : CAt cs k c) (hn : n ≤ 60) (ok : c.Ok) (g : Pm n) {l : Nat} (hl : l ≤ n) (q : ∀ r : Pm n, Chn.Lst c (n - l) l g r → Q (.v (pD r) cs)) : got (popped f_Chain_least [.cell k, pD g, di l] cs) Q := by
  refine got_popped (got_fn rfl ?_)
  simp [b_Chain_least, h.at0, stC]
  rw [cut_from (by rw [List.length_map, List.length_range]; exact hl)]
  refine got_for (fun i env cs' => ∃ (g' : Pm n) (y3 y4 y5 : Option D), env = [some (.cell k), some (pD g'), some (di l), y3, y4, y5] ∧ cs' = cs ∧ ∀ r, Chn.Lst c (n - l - i) (l + i) g' r → Chn.Lst c (n - l) l g r)
    ⟨g, none, none, none, rfl, rfl, fun r hr => hr⟩ (fun _ _ _ _ _ => rfl) (fun i x env cs' hx hI => ?_) fun env cs' hI => ?_
  · obtain ⟨g', y3, y4, y5, rfl, rfl, e⟩ := hI
    rw [List.getElem?_drop, List.getElem?_map] at hx
    obtain ⟨j, hj, rfl⟩ := Option.map_eq_some_iff.mp hx
    have hjn : l + i < n := by have := (List.getElem?_eq_some_iff.mp hj).1; rwa [List.length_range] at this
    rw [List.getElem?_range hjn] at hj
    cases hj
    obtain ⟨d, hd⟩ : ∃ d, n - l - i = d + 1 := ⟨n - l - i - 1, by omega⟩
    rw [hd] at e
    have hd2 : n - l - (i + 1) = d := by omega
    have hm2 : l + (i + 1) = l + i + 1 := by omega
    rw [hd2, hm2]
    generalize l + i = m at *
    have o := ok m hjn
    have hD := h.atd hjn o.free
    obtain ⟨r0, hr0⟩ := o.head
    simp [h.ats hjn, hD, set_at hD]
    refine got_for (fun j env cs1 => ∃ (f : Lf n) (y5 : Option D), env = [some (.cell k), some (pD g'), some (di l), some (.cell (k + 2 + 3 * m)), some (di f.key), y5] ∧ cs1 = cs'.set (k + 2 + 3 * m + 1) (.lck (c.st m).keys ((c.st m).lifts.map liftD)) ∧ f ∈ (c.st m).lifts ∧ ∀ i f', i < j → (c.st m).lifts[i]? = some f' → g' f.key ≤ g' f'.key)
      ⟨⟨m, 1, 0⟩, y5, rfl, rfl, by rw [hr0]; exact List.mem_cons_self, fun i f' h => absurd h (Nat.not_lt_zero _)⟩ (fun _ _ _ _ _ => rfl) (fun j x env cs1 hx hI => ?_) fun env cs1 hI => ?_
    · obtain ⟨f, y5, rfl, rfl, hf, hmin⟩ := hI
      unfold Stp.keys at hx
      rw [List.getElem?_map] at hx
      obtain ⟨f', hf', rfl⟩ := Option.map_eq_some_iff.mp hx
      have hfm := List.mem_of_getElem? hf'
      simp [pD_at g' (o.key_lt hjn hf), pD_at g' (o.key_lt hjn hfm)]
      split
      · rename_i hlt
        refine ⟨f', by simp, hfm, fun i f2 hi h2 => ?_⟩
        by_cases e2 : i = j
        · subst e2
          rw [hf'] at h2
          cases h2
          exact Nat.le_refl _
        · have := hmin i f2 (by omega) h2
          omega
      · rename_i hge
        refine ⟨f, by simp, hf, fun i f2 hi h2 => ?_⟩
        by_cases e2 : i = j
        · subst e2
          rw [hf'] at h2
          cases h2
          omega
        · exact hmin i f2 (by omega) h2
    · obtain ⟨f, y5, rfl, rfl, hf, hmin⟩ := hI
      have hmin' : ∀ f' ∈ (c.st m).lifts, g' f.key ≤ g' f'.key := fun f' hf' => by
        obtain ⟨i, hi⟩ := List.getElem?_of_mem hf'
        refine hmin i f' ?_ hi
        unfold Stp.keys
        rw [List.length_map]
        exact (List.getElem?_eq_some_iff.mp hi).1
      simp [set_at hD, set_same_at hD, h.ats hjn, hD]
      by_cases e1 : f.key = m
      · have e2 : f = ⟨m, 1, 0⟩ := by
          have h1 := find_of o.nodup hf
          rw [e1, o.find_self] at h1
          exact (Option.some.inj h1).symm
        simp [e1]
        refine ⟨g', rfl, fun r hr => e r (.s hf hmin' ?_)⟩
        rw [e2]
        simpa using hr
      · have e1' : ¬ ((f.key : Int) = (m : Int)) := by omega
        simp [e1', find_lifts, find_of o.nodup hf, liftD]
        refine behind_ok _ _ hn ?_
        simp
        exact ⟨_, rfl, fun r hr => e r (.s hf hmin' hr)⟩
  · obtain ⟨g', y3, y4, y5, rfl, rfl, e⟩ := hI
    rw [List.length_drop, List.length_map, List.length_range, Nat.sub_self] at e
    simp
    exact ⟨_, [], ⟨rfl, by simp⟩, _, frozen_pure (pD_pure g'), q g' (e g' .z)⟩
end
end Mi
end
section
set_option linter.all false
set_option maxHeartbeats 2000000
namespace Mi
open PySem tb
section
variable {n : Nat} {cs : Cs} {g : Nat} {ms : List (Pm n)} {c : Chn n} {Q : R D → Prop}
theorem intsOf_dis : ∀ l : List Nat, intsOf (dis l) = some (l.map fun x : Nat => (x : Int))
  | [] => rfl
  | x :: r => by
    show (intsOf (dis r)).map ((x : Int) :: ·) = _
    rw [intsOf_dis r]
    rfl
theorem sortI_nat (l : List Nat) : (sortI (l.map fun x : Nat => (x : Int))).map D.int = dis (srt l) := by
  unfold sortI
  have := List.map_mergeSort (f := fun x : Nat => (x : Int)) (r := fun a b => decide (a ≤ b)) (s := fun a b => decide (a ≤ b)) (l := l) fun a _ b _ => by
    simp
  rw [← this, List.map_map]
  rfl
def Chn.orb (c : Chn n) (l : Nat) : List Nat := srt ((c.st l).lifts.map Lf.key)
theorem orb_rise {l : Nat} (ok : SOk (c.st l) l) : (c.orb l).Pairwise (· < ·) := srt_rise ok.nodup
theorem orb_mem {l x : Nat} : x ∈ c.orb l ↔ ∃ f ∈ (c.st l).lifts, f.key = x := by
  unfold Chn.orb
  rw [(srt_perm _).mem_iff, List.mem_map]
theorem keys_dis (s : Stp n) : s.keys = dis (s.lifts.map Lf.key) := by
  simp [Stp.keys]
theorem group_told (h : GAt cs g ms c) (q : Q (.v (.lst (ms.map pD)) cs)) : got (popped f_Group_told [.cell g] cs) Q := by
  refine got_popped (got_fn rfl ?_)
  simp [b_Group_told, h.obj, grpC]
  refine ⟨_, [], ⟨rfl, by simp⟩, _, frozen_pure (D.pures_iff.mpr fun x hx => ?_), q⟩
  obtain ⟨i, _, rfl⟩ := List.mem_map.mp hx
  exact pD_pure i
theorem group_size (h : GAt cs g ms c) (hn : n ≤ 60) (ok : c.Ok) (q : Q (.v (di (c.sz n 0)) cs)) : got (popped f_Group_size [.cell g] cs) Q := by
  refine got_popped (got_fn rfl ?_)
  simp [b_Group_size, h.obj, grpC, h.at0, stC]
  refine chain_size h.toCAt hn ok ?_
  simp
  exact ⟨_, [], ⟨rfl, by simp⟩, _, frozen_pure rfl, q⟩
theorem group_has (h : GAt cs g ms c) (h1 : 1 ≤ n) (hn : n ≤ 60) (ok : c.Ok) (p : Pm n) (q : ∀ b : Bool, (b = true ↔ c.In n 0 p) → Q (.v (.bl b) cs)) : got (popped f_Group_has [.cell g, pD p] cs) Q := by
  refine got_popped (got_fn rfl ?_)
  simp [b_Group_has, h.obj, grpC]
  refine is_of_ok p h1 hn ?_
  simp [h.obj, grpC, h.at0, stC]
  refine chain_has h.toCAt hn ok p fun b hb => ?_
  simp
  exact ⟨_, [], ⟨rfl, by simp⟩, _, frozen_pure rfl, q b hb⟩
theorem bigs_lt {i : Nat} (h : i ∈ c.bigs) : i < n ∧ 1 < (c.st i).lifts.length := by
  unfold Chn.bigs at h
  rw [List.mem_filter, List.mem_range, decide_eq_true_iff] at h
  exact h
theorem bigs_len : c.bigs.length ≤ n := by
  unfold Chn.bigs
  have := List.length_filter_le (fun i => decide (1 < (c.st i).lifts.length)) (List.range n)
  rwa [List.length_range] at this
theorem group_base (h : GAt cs g ms c) (hn : n ≤ 60) (q : Q (.v (dl c.bigs) cs)) : got (popped f_Group_base [.cell g] cs) Q := by
  refine got_popped (got_fn rfl ?_)
  simp [b_Group_base, h.obj, grpC, wipe]
  have := bigs_len (c := c)
  refine got_lc_map (fun d => match d with | .cell j => di ((j - (g + 1 + 2)) / 3) | d => d) rfl (by rw [List.length_map]; show _ ≤ 16777216; omega) (fun x hx => ?_) ?_
  · obtain ⟨i, hi, rfl⟩ := List.mem_map.mp hx
    have hi' := (bigs_lt hi).1
    have e4 : (g + 1 + 2 + 3 * i - (g + 1 + 2)) / 3 = i := by omega
    simp [eYes, h.ats hi', e4]
  · have e : List.map (fun d => match d with | D.cell j => di ((j - (g + 1 + 2)) / 3) | d => d) (List.map (fun i => D.cell (g + 1 + 2 + 3 * i)) c.bigs) = dis c.bigs := by
      rw [List.map_map]
      refine List.map_congr_left fun i _ => ?_
      have e4 : (g + 1 + 2 + 3 * i - (g + 1 + 2)) / 3 = i := by omega
      simp [e4]
    rw [e]
    simp
    exact ⟨_, [], ⟨rfl, by simp⟩, _, frozen_pure (pures_dis _), q⟩
theorem step_at {i : Nat} (k : Nat) (hi : i < n) : atI ((List.range n).map fun i => D.cell (k + 2 + 3 * i)) (i : Int) = some (.cell (k + 2 + 3 * i)) := atI_nat (by rw [List.getElem?_map, List.getElem?_range hi]; rfl)
theorem group_ring_at (h : GAt cs g ms c) (hn : n ≤ 60) (ok : c.Ok) {l : Nat} (hl : l < n) (q : Q (.v (dl (c.orb l)) cs)) : got (popped f_Group_ring_at [.cell g, di l] cs) Q := by
  refine got_popped (got_fn rfl ?_)
  have := (ok l hl).len_le hl
  simp [b_Group_ring_at, h.obj, grpC, h.at0, stC, step_at _ hl, h.ats hl, h.atd hl (ok l hl).free, keys_dis, intsOf_dis]
  rw [show List.map (di ∘ Lf.key) (c.st l).lifts = dis ((c.st l).lifts.map Lf.key) from by rw [dis, List.map_map], intsOf_dis, got_some, sortI_nat]
  refine ⟨by rw [List.length_map, List.length_map]; omega, ?_⟩
  exact ⟨_, [], ⟨rfl, by simp⟩, _, frozen_pure (d := dl _) (pures_dis _), q⟩
theorem group_least (h : GAt cs g ms c) (h1 : 1 ≤ n) (hn : n ≤ 60) (ok : c.Ok) (p : Pm n) (q : ∀ r : Pm n, Chn.Lst c n 0 p r → Q (.v (pD r) cs)) : got (popped f_Group_least [.cell g, pD p] cs) Q := by
  refine got_popped (got_fn rfl ?_)
  simp [b_Group_least, h.obj, grpC]
  refine is_of_ok p h1 hn ?_
  simp [h.obj, grpC, h.at0, stC]
  refine chain_least h.toCAt hn ok p (Nat.zero_le _) fun r hr => ?_
  simp
  exact ⟨_, [], ⟨rfl, by simp⟩, _, frozen_pure (pD_pure r), q r hr⟩
structure Chn.IsLift (c : Chn n) (l x : Nat) (r : Pm n) : Prop where
  in_ : c.In (n - l) l r
  to : r l = x
  least : ∀ g, c.In (n - l) l g → g l = x → g = r ∨ r.lt g
theorem Chn.IsLift.uniq {l x : Nat} {r r' : Pm n} (h : c.IsLift l x r) (h' : c.IsLift l x r') : r = r' := by
  rcases h.least r' h'.in_ h'.to with e | a
  · exact e.symm
  · rcases h'.least r h.in_ h.to with e | b
    · exact e
    · exact (Pm.lt_asymm a b).elim
theorem lift_of (ok : c.Ok) {l : Nat} (hl : l < n) {f : Lf n} (hf : f ∈ (c.st l).lifts) {r : Pm n} (hr : Chn.Lst c (n - (l + 1)) (l + 1) f.g r) : c.IsLift l f.key r := by
  have o := ok l hl
  have nl : n - l = (n - (l + 1)) + 1 := by omega
  obtain ⟨k, hk, rfl⟩ := hr.in_ ok (by omega)
  have kf := Chn.In.fx (l := l + 1) ok (by omega) hk l (Nat.lt_succ_self l)
  refine ⟨by rw [nl]; exact Chn.In.mul_lift ok (by omega) hk hf, by rw [Pm.mul_ap, kf, (o.lift f hf).2], fun g hg e => ?_⟩
  rw [nl] at hg
  obtain ⟨k2, f2, hk2, hf2, rfl⟩ := hg.split
  have kf2 := Chn.In.fx (l := l + 1) ok (by omega) hk2 l (Nat.lt_succ_self l)
  rw [Pm.mul_ap, kf2, (o.lift f2 hf2).2] at e
  have : f2 = f := by
    have h1 := find_of o.nodup hf
    have h2 := find_of o.nodup hf2
    rw [e, h1] at h2
    exact (Option.some.inj h2).symm
  subst this
  exact hr.least ok (by omega) k2 hk2
theorem group_lift (h : GAt cs g ms c) (hn : n ≤ 60) (ok : c.Ok) {l : Nat} (hl : l < n) (x : Nat) (q : (∃ f ∈ (c.st l).lifts, f.key = x) → ∀ r : Pm n, c.IsLift l x r → Q (.v (pD r) cs)) (q2 : (¬ ∃ f ∈ (c.st l).lifts, f.key = x) → Q (.x 6 cs)) : got (popped f_Group_lift [.cell g, di l, di x] cs) Q := by
  refine got_poppedX (got_fn rfl ?_)
  have o := ok l hl
  simp [b_Group_lift, h.obj, grpC, h.at0, stC, step_at _ hl, h.ats hl, h.atd hl o.free, find_lifts]
  cases hx : (c.st l).find x with
  | none =>
    simp
    refine q2 ?_
    rintro ⟨f, hf, e⟩
    exact find_none'.mp hx f hf e
  | some f =>
    have hm := find_mem hx
    simp [h.obj, grpC, h.at0, stC, h.atd hl o.free, find_lifts, hx, liftD]
    refine chain_least (l := l + 1) h.toCAt hn ok f.g (by omega) fun r hr => ?_
    simp
    refine ⟨_, [], ⟨rfl, by simp⟩, _, frozen_pure (pD_pure r), q ⟨f, hm⟩ r ?_⟩
    have := lift_of ok hl hm.1 hr
    rwa [hm.2] at this
open Classical in
noncomputable def Chn.lf (c : Chn n) (l x : Nat) : Pm n := if h : ∃ r, c.IsLift l x r then h.choose else 1
theorem Chn.IsLift.lf {l x : Nat} {r : Pm n} (h : c.IsLift l x r) : c.lf l x = r := by
  have e : ∃ r, c.IsLift l x r := ⟨r, h⟩
  unfold Chn.lf
  rw [dif_pos e]
  exact e.choose_spec.uniq h
theorem group_ground (h : GAt cs g ms c) (hn : n ≤ 60) (ok : c.Ok) (q : Q (.v (.lst (c.bigs.map fun l => .tup [di l, .lst ((c.orb l).map fun x => pD (c.lf l x))])) cs)) : got (popped f_Group_ground [.cell g] cs) Q := by
  refine got_popped (got_fn rfl ?_)
  simp [b_Group_ground, h.obj, grpC, wipe]
  refine group_base h hn ?_
  simp
  have := bigs_len (c := c)
  refine got_lc_map (fun d => match d with | .int l => .tup [di l.toNat, .lst ((c.orb l.toNat).map fun x => pD (c.lf l.toNat x))] | d => d) rfl (by rw [List.length_map]; show _ ≤ 16777216; omega) (fun x hx => ?_) ?_
  · obtain ⟨l, hl', rfl⟩ := List.mem_map.mp hx
    have hl := (bigs_lt hl').1
    have ol : (c.orb l).length ≤ n := by
      unfold Chn.orb
      rw [(srt_perm _).length_eq, List.length_map]
      exact (ok l hl).len_le hl
    simp [eYes, h.obj, grpC, wipe]
    refine group_ring_at h hn ok hl ?_
    simp
    refine got_lc_map (fun d => match d with | .int x => pD (c.lf l x.toNat) | d => d) rfl (by rw [List.length_map]; show _ ≤ 16777216; omega) (fun x hx => ?_) ?_
    · obtain ⟨y, hy, rfl⟩ := List.mem_map.mp hx
      simp [h.obj, grpC]
      refine group_lift h hn ok hl y (fun _ r hr => ?_) fun hno => absurd (orb_mem.mp hy) hno
      simp [hr.lf]
    · simp
  · simp
    refine ⟨_, [], ⟨rfl, by simp⟩, _, frozen_pure (D.pures_iff.mpr fun x hx => ?_), ?_⟩
    · obtain ⟨l, _, rfl⟩ := List.mem_map.mp hx
      simp only [Function.comp, D.pure, D.pures, Bool.and_eq_true, D.pures_iff]
      refine ⟨trivial, fun y hy => ?_, trivial⟩
      obtain ⟨z, _, rfl⟩ := List.mem_map.mp hy
      exact pD_pure _
    · simp [Function.comp_def]
      exact q
end
end Mi
end
section
set_option linter.all false
set_option maxHeartbeats 2000000
namespace Mi
open PySem tb
section
variable {n : Nat} {c : Chn n}
namespace Chn
def bigF (c : Chn n) : Nat → Nat → List Nat
  | 0, _ => []
  | d + 1, l => if 1 < (c.st l).lifts.length then l :: c.bigF d (l + 1) else c.bigF d (l + 1)
theorem bigs_eq (c : Chn n) : c.bigs = c.bigF n 0 := by
  unfold bigs
  rw [List.range_eq_range']
  have : ∀ d l, (List.range' l d).filter (fun i => decide (1 < (c.st i).lifts.length)) = c.bigF d l := fun d => by
    induction d with
    | zero => intro l; rfl
    | succ d ih =>
      intro l
      rw [List.range'_succ, List.filter_cons, ih]
      simp only [bigF, decide_eq_true_eq]
  exact this n 0
def prodL (c : Chn n) : List Nat → Nat
  | [] => 1
  | l :: bs => (c.st l).lifts.length * c.prodL bs
theorem one_lift (ok : c.Ok) {l : Nat} (hl : l < n) (h : ¬ 1 < (c.st l).lifts.length) : (c.st l).lifts = [⟨l, 1, 0⟩] := by
  obtain ⟨r, e⟩ := (ok l hl).head
  rw [e] at h ⊢
  cases r with
  | nil => rfl
  | cons x r => simp at h
theorem prodL_big (ok : c.Ok) : ∀ d l, d + l = n → c.prodL (c.bigF d l) = c.sz d l
  | 0, _, _ => rfl
  | d + 1, l, e => by
    have ih := prodL_big ok d (l + 1) (by omega)
    simp only [bigF, sz]
    split
    · simp only [prodL, ih]
    · rename_i h
      rw [ih, one_lift ok (by omega) h]
      simp
inductive NthL (c : Chn n) : List Nat → Nat → Pm n → Pm n → Prop where
  | z {p} : NthL c [] 0 p p
  | s {l bs k p f r} : f ∈ (c.st l).lifts → c.dig l p (p f.key) = k / c.prodL bs → NthL c bs (k % c.prodL bs) (f.g * p) r → NthL c (l :: bs) k p r
theorem dig_one (ok : c.Ok) {l : Nat} (hl : l < n) (h : ¬ 1 < (c.st l).lifts.length) (p : Pm n) : c.dig l p (p l) = 0 := by
  unfold dig
  rw [one_lift ok hl h]
  simp
theorem nthL_big (ok : c.Ok) : ∀ {d l k : Nat} {p r : Pm n}, d + l = n → k < c.sz d l → NthL c (c.bigF d l) k p r → Nth c d l k p r
  | 0, _, k, p, r, _, hk, h => by
    simp only [bigF] at h
    cases h
    exact .z
  | d + 1, l, k, p, r, e, hk, h => by
    have hl : l < n := by omega
    simp only [bigF] at h
    split at h
    · cases h with
      | s hf hd h =>
        rw [prodL_big ok d (l + 1) (by omega)] at hd h
        exact .s hf hd (nthL_big ok (by omega) (Nat.mod_lt _ (sz_pos ok (by omega))) h)
    · rename_i hb
      have one := one_lift ok hl hb
      have hk' : k < c.sz d (l + 1) := by
        simp only [sz] at hk
        rw [one] at hk
        simpa using hk
      have ih := nthL_big ok (d := d) (l := l + 1) (by omega) hk' h
      refine .s (f := ⟨l, 1, 0⟩) (by rw [one]; simp) ?_ ?_
      · rw [dig_one ok hl hb, Nat.div_eq_of_lt hk']
      · rw [Nat.mod_eq_of_lt hk', Pm.one_mul]
        exact ih
inductive PlL (c : Chn n) : List Nat → Pm n → Pm n → Nat → Prop where
  | z {p r} : PlL c [] p r 0
  | s {l bs p r f m} : f ∈ (c.st l).lifts → p f.key = r l → PlL c bs (f.g * p) r m → PlL c (l :: bs) p r (c.dig l p (r l) * c.prodL bs + m)
theorem plL_big (ok : c.Ok) (sg : ∀ l, l < n → ∀ a b, c.In (n - l) l a → c.In (n - l) l b → c.In (n - l) l (a * b)) : ∀ {d l m : Nat} {h p : Pm n}, d + l = n → c.In d l h → PlL c (c.bigF d l) p (h * p) m → m = c.pl d l (h * p)
  | 0, _, m, h, p, _, _, q => by
    simp only [bigF] at q
    cases q
    rfl
  | d + 1, l, m, h, p, e, hh, q => by
    have hl : l < n := by omega
    have hh' : c.In (n - l) l h := by rw [show n - l = d + 1 by omega]; exact hh
    obtain ⟨k, f, hk, hf, rfl⟩ := hh.split
    have kf := In.fx (l := l + 1) ok (by omega) hk l (Nat.lt_succ_self l)
    have e1 : (k * f.g * p) l = p f.key := by rw [Pm.mul_ap, Pm.mul_ap, kf, ((ok l hl).lift f hf).2]
    simp only [bigF] at q
    simp only [pl]
    split at q
    · rename_i hb
      cases q with
      | s hf2 he q =>
        rename_i f2 m
        rw [e1] at he
        have : f2 = f := by
          have h1 := find_of (ok l hl).nodup hf
          have h2 := find_of (ok l hl).nodup hf2
          rw [p.inj he, h1] at h2
          exact (Option.some.inj h2).symm
        subst this
        rw [Pm.mul_assoc] at q
        have ih := plL_big ok sg (by omega) hk q
        rw [dig_perm ok hl hh' (sg l hl), prodL_big ok d (l + 1) (by omega), Pm.mul_assoc, ih]
    · rename_i hb
      have one := one_lift ok hl hb
      rw [one, List.mem_singleton] at hf
      subst hf
      rw [Pm.mul_one] at q ⊢
      rw [dig_one ok hl hb, Nat.zero_mul, Nat.zero_add]
      exact plL_big ok sg (by omega) hk q
end Chn
theorem rise_count : ∀ {L : List Nat} {i x : Nat}, L.Pairwise (· < ·) → L[i]? = some x → L.countP (fun y => decide (y < x)) = i
  | [], _, _, _, h => by simp at h
  | a :: r, 0, x, p, h => by
    simp at h
    subst h
    rw [List.countP_eq_zero]
    intro y hy
    rcases List.mem_cons.mp hy with rfl | hy
    · simp
    · have := (List.pairwise_cons.mp p).1 y hy
      simp
      omega
  | a :: r, i + 1, x, p, h => by
    simp at h
    have := (List.pairwise_cons.mp p).1 x (List.mem_of_getElem? h)
    rw [List.countP_cons, rise_count (List.pairwise_cons.mp p).2 h]
    simp [this]
end
section
variable {n : Nat} {cs : Cs} {g : Nat} {ms : List (Pm n)} {c : Chn n} {Q : R D → Prop}
abbrev p2 (x : Nat × Nat) : D := tp [x.1, x.2]
theorem lexB_pair (a b : Nat × Nat) : lexB [a.1, a.2] [b.1, b.2] = decide (a.1 < b.1 ∨ a.1 = b.1 ∧ a.2 < b.2) := by
  simp only [lexB]
  by_cases e : a.1 = b.1
  · rw [if_pos e]
    by_cases e2 : a.2 = b.2
    · rw [if_pos e2]
      simp [e, e2]
    · rw [if_neg e2]
      simp [e]
  · rw [if_neg e]
    simp [e]
theorem sortD_tps {ls : List (List Nat)} (h : ls.length ≤ 16777216) (hne : ∀ l ∈ ls, l ≠ []) : sortD (ls.map tp) = some ((srtL ls).map tp) := by
  have so : sortable (ls.map tp) = true := by
    simp only [sortable, SIZE_eq, List.length_map, Bool.and_eq_true, Bool.or_eq_true, decide_eq_true_eq, List.all_eq_true]
    refine ⟨⟨fun x hx => ?_, .inl fun x hx => ?_⟩, h⟩
    · obtain ⟨n, hn, rfl⟩ := List.mem_map.mp hx
      refine ⟨fit_tp n, fun y hy => ?_⟩
      obtain ⟨m, hm, rfl⟩ := List.mem_map.mp hy
      exact likeDs_dis n m
    · obtain ⟨l, hl, rfl⟩ := List.mem_map.mp hx
      cases l with
      | nil => exact absurd rfl (hne _ hl)
      | cons a r => rfl
  unfold sortD
  rw [if_pos so]
  congr 1
  refine (List.map_mergeSort (f := tp) fun a _ b _ => ?_).symm
  show (!lexB b a) = !ltDs (dis b) (dis a)
  rw [ltDs_dis]
theorem srtL_sorted (ls : List (List Nat)) : (srtL ls).Pairwise fun a b => leB a b = true := List.pairwise_mergeSort leB_trans leB_total ls
theorem rising_at {l : Nat} (ok : SOk (c.st l) l) (p : Pm n) {i : Nat} (hi : i < (c.st l).lifts.length) : ∃ f ∈ (c.st l).lifts, (srtL ((c.st l).lifts.map fun f => [p f.key, f.key]))[i]? = some [p f.key, f.key] ∧ c.dig l p (p f.key) = i := by
  have hp : (srtL ((c.st l).lifts.map fun f => [p f.key, f.key])).Perm ((c.st l).lifts.map fun f => [p f.key, f.key]) := List.mergeSort_perm _ _
  have hs := srtL_sorted ((c.st l).lifts.map fun f => [p f.key, f.key])
  generalize srtL ((c.st l).lifts.map fun f => [p f.key, f.key]) = L at *
  have hl : i < L.length := by rw [hp.length_eq, List.length_map]; exact hi
  obtain ⟨x, hx⟩ : ∃ x, L[i]? = some x := ⟨_, List.getElem?_eq_getElem hl⟩
  obtain ⟨f, hf, rfl⟩ := List.mem_map.mp (hp.subset (List.mem_of_getElem? hx))
  refine ⟨f, hf, hx, ?_⟩
  have mem2 : ∀ y ∈ L, ∃ f : Lf n, y = [p f.key, f.key] := fun y hy => by
    obtain ⟨f, _, rfl⟩ := List.mem_map.mp (hp.subset hy)
    exact ⟨f, rfl⟩
  have nd : L.Pairwise fun a b => a ≠ b := by
    have : ((c.st l).lifts.map fun f => [p f.key, f.key]).Nodup := by
      rw [List.Nodup, List.pairwise_map]
      have := ok.nodup
      rw [List.Nodup, List.pairwise_map] at this
      exact this.imp fun h e => h (by simpa using (List.cons.inj (List.cons.inj e).2).1)
    exact hp.nodup_iff.mpr this
  have rise : (L.map fun y => y.headD 0).Pairwise (· < ·) := by
    rw [List.pairwise_map]
    refine List.Pairwise.imp_of_mem (fun {a b} ha hb h => ?_) (hs.and nd)
    obtain ⟨fa, rfl⟩ := mem2 a ha
    obtain ⟨fb, rfl⟩ := mem2 b hb
    have h1 := h.1
    have h2 := h.2
    simp only [leB, Bool.not_eq_true', lexB_pair (p fb.key, fb.key) (p fa.key, fa.key), decide_eq_false_iff_not] at h1
    show p fa.key < p fb.key
    refine Nat.lt_of_not_le fun hle => ?_
    by_cases e : p fb.key = p fa.key
    · exact h2 (by rw [p.inj e])
    · exact h1 (.inl (by omega))
  have cnt := rise_count (i := i) (x := p f.key) rise (by rw [List.getElem?_map, hx]; rfl)
  rw [← cnt, (hp.map _).countP_eq, List.map_map, List.countP_map]
  rfl
theorem prodL_pos (ok : c.Ok) : ∀ {bs : List Nat}, (∀ l ∈ bs, l < n) → 0 < c.prodL bs
  | [], _ => Nat.one_pos
  | l :: bs, h => by
    obtain ⟨r, e⟩ := (ok l (h l List.mem_cons_self)).head
    exact Nat.mul_pos (by rw [e]; simp) (prodL_pos ok fun x hx => h x (List.mem_cons_of_mem _ hx))
theorem prodL_le (ok : c.Ok) (hn : n ≤ 60) : ∀ {bs : List Nat}, (∀ l ∈ bs, l < n) → c.prodL bs ≤ 60 ^ bs.length
  | [], _ => Nat.le_refl _
  | l :: bs, h => by
    have := (ok l (h l List.mem_cons_self)).len_le (h l List.mem_cons_self)
    have ih := prodL_le ok hn (bs := bs) fun x hx => h x (List.mem_cons_of_mem _ hx)
    rw [List.length_cons, Nat.pow_succ, Nat.mul_comm]
    exact Nat.mul_le_mul (by omega) ih
theorem group_nth (h : GAt cs g ms c) (hn : n ≤ 60) (ok : c.Ok) (i : Int) (q : ∀ k : Nat, i = k → k < c.sz n 0 → ∀ r : Pm n, Chn.Nth c n 0 k 1 r → Q (.v (pD r) cs)) (q2 : ¬ (0 ≤ i ∧ i < c.sz n 0) → Q (.x 5 cs)) : got (popped f_Group_nth [.cell g, .int i] cs) Q := by
  refine got_poppedX (got_fn rfl ?_)
  simp [b_Group_nth]
  refine whole_ok _ ?_
  simp
  by_cases h0 : 0 ≤ i
  · simp [h0, h.obj, grpC]
    refine group_size h hn ok ?_
    simp
    by_cases h1 : i < c.sz n 0
    · obtain ⟨k0, rfl⟩ : ∃ k : Nat, i = k := ⟨i.toNat, by omega⟩
      have hk0 : k0 < c.sz n 0 := by omega
      simp [h1, Nat.not_le.mpr hk0, h.obj, grpC]
      refine group_size h hn ok ?_
      simp [h.obj, grpC]
      refine still_ok hn ?_
      simp [h.obj, grpC]
      have bl := bigs_len (c := c)
      refine got_for (fun i env cs' => ∃ (k : Nat) (p : Pm n) (y4 y5 y6 y7 y8 : Option D), env = [some (.cell g), some (di k), some (di (c.prodL (c.bigs.drop i))), some (pD p), y4, y5, y6, y7, y8] ∧ cs' = cs ∧ k < c.prodL (c.bigs.drop i) ∧ ∀ r, Chn.NthL c (c.bigs.drop i) k p r → Chn.NthL c c.bigs k0 1 r)
        ⟨k0, 1, none, none, none, none, none, ?_, rfl, ?_, fun r hr => hr⟩ (fun _ _ _ _ _ => rfl) (fun i x env cs' hx hI => ?_) fun env cs' hI => ?_
      · rw [List.drop_zero, Chn.bigs_eq, Chn.prodL_big ok n 0 rfl]
      · rw [List.drop_zero, Chn.bigs_eq, Chn.prodL_big ok n 0 rfl]
        exact hk0
      · obtain ⟨k, p, y4, y5, y6, y7, y8, rfl, rfl, hk, hr⟩ := hI
        rw [List.getElem?_map] at hx
        obtain ⟨l, hlb, rfl⟩ := Option.map_eq_some_iff.mp hx
        have hl := (bigs_lt (List.mem_of_getElem? hlb)).1
        have hdrop : c.bigs.drop i = l :: c.bigs.drop (i + 1) := by
          have hi := (List.getElem?_eq_some_iff.mp hlb).1
          rw [List.drop_eq_getElem_cons hi]
          rw [List.getElem?_eq_getElem hi] at hlb
          rw [Option.some.inj hlb]
        rw [hdrop] at hk hr ⊢
        have o := ok l hl
        have hD := h.atd hl o.free
        have pos : 0 < c.prodL (c.bigs.drop (i + 1)) := prodL_pos ok fun x hx => (bigs_lt (List.mem_of_mem_drop hx)).1
        have ple : c.prodL (c.bigs.drop (i + 1)) ≤ 60 ^ n := Nat.le_trans (prodL_le ok hn fun x hx => (bigs_lt (List.mem_of_mem_drop hx)).1) (Nat.pow_le_pow_right (by decide) (by rw [List.length_drop]; omega))
        have lpos : 0 < (c.st l).lifts.length := by obtain ⟨r, e⟩ := o.head; rw [e]; simp
        have ll := o.len_le hl
        have pk : Chn.prodL c (l :: c.bigs.drop (i + 1)) = (c.st l).lifts.length * c.prodL (c.bigs.drop (i + 1)) := rfl
        generalize hP : c.prodL (c.bigs.drop (i + 1)) = P at *
        have hdiv : (c.st l).lifts.length * P / (c.st l).lifts.length = P := Nat.mul_div_cancel_left _ lpos
        have hdivI : (((c.st l).lifts.length * P : Nat) : Int) / ((c.st l).lifts.length : Int) = (P : Int) := by rw [← Int.natCast_ediv, hdiv]
        have hnum : k / P < (c.st l).lifts.length := by
          rw [pk] at hk
          exact (Nat.div_lt_iff_lt_mul pos).mpr hk
        obtain ⟨f, hf, hfi, hdig⟩ := rising_at o p hnum
        have l1 := pow_log (a := (c.st l).lifts.length) (b := 1) (by omega) (by omega)
        have l2 := pow_log ple hn
        have hkl : (c.st l).keys.length = (c.st l).lifts.length := by unfold Stp.keys; rw [List.length_map]
        have lposI : (0 : Int) < ((c.st l).lifts.length : Int) := by omega
        have posI : (0 : Int) < (P : Int) := by omega
        have l1' : Nat.log2 (c.st l).lifts.length < 9000 := by omega
        have l2' : Nat.log2 P < 9000 := by omega
        rw [pk]
        simp only [Int.natCast_mul] at hdivI
        simp [h.ats hl, hD, hkl, l1', l2', set_at hD, hdivI, lpos, pos]
        refine got_lc_map (fun d => match d with | .int x => p2 (p x.toNat, x.toNat) | d => d) rfl (by rw [hkl]; show _ ≤ 16777216; omega) (fun x hx => ?_) ?_
        · rw [keys_dis] at hx
          obtain ⟨y, hy, rfl⟩ := List.mem_map.mp hx
          obtain ⟨f2, hf2, rfl⟩ := List.mem_map.mp hy
          simp [eYes, wipe, pD_at p (o.key_lt hl hf2)]
        · have ek : List.map (fun d => match d with | D.int x => p2 (p x.toNat, x.toNat) | d => d) (c.st l).keys = ((c.st l).lifts.map fun f => [p f.key, f.key]).map tp := by
            rw [keys_dis, List.map_map, List.map_map, List.map_map]
            rfl
          rw [ek]
          simp [set_at hD, set_same_at hD]
          have es := sortD_tps (ls := (c.st l).lifts.map fun f => [p f.key, f.key]) (by rw [List.length_map]; omega) (fun x hx => by obtain ⟨f, _, rfl⟩ := List.mem_map.mp hx; simp)
          rw [List.map_map] at es
          rw [es]
          have q1 : atI ((srtL ((c.st l).lifts.map fun f => [p f.key, f.key])).map tp) ((k / P : Nat) : Int) = some (p2 (p f.key, f.key)) := atI_nat (by rw [List.getElem?_map, hfi]; rfl)
          rw [Int.natCast_ediv] at q1
          simp [q1, h.ats hl]
          have hmod : k % P < P := Nat.mod_lt _ pos
          by_cases e1 : f.key = l
          · have e2 : f = ⟨l, 1, 0⟩ := by
              have h1 := find_of o.nodup hf
              rw [e1, o.find_self] at h1
              exact (Option.some.inj h1).symm
            simp [e1]
            refine ⟨k % P, p, by simp, hmod, fun r hr' => hr r (.s hf (by rw [hP]; exact hdig) ?_)⟩
            rw [e2, hP]
            simpa using hr'
          · have e1' : ¬ ((f.key : Int) = (l : Int)) := by omega
            simp [e1', hD, find_lifts, find_of o.nodup hf, liftD]
            refine behind_ok _ _ hn ?_
            simp
            exact ⟨k % P, f.g * p, by simp, hmod, fun r hr' => hr r (.s hf (by rw [hP]; exact hdig) (by rw [hP]; exact hr'))⟩
      · obtain ⟨k, p, y4, y5, y6, y7, y8, rfl, rfl, hk, hr⟩ := hI
        rw [List.length_map, List.drop_length] at hk hr
        have hk' : k = 0 := by simp only [Chn.prodL] at hk; omega
        subst hk'
        simp
        refine ⟨_, [], ⟨rfl, by simp⟩, _, frozen_pure (pD_pure p), q k0 rfl hk0 p ?_⟩
        have := hr p .z
        rw [Chn.bigs_eq] at this
        exact Chn.nthL_big ok rfl hk0 this
    · simp [Int.not_lt.mp h1]
      exact q2 fun hc => h1 hc.2
  · simp [h0]
    exact q2 fun hc => h0 hc.1
end
end Mi
end
section
set_option linter.all false
set_option maxHeartbeats 2000000
namespace Mi
open PySem tb
section
variable {n : Nat} {cs : Cs} {g : Nat} {ms : List (Pm n)} {c : Chn n} {Q : R D → Prop}
theorem big_lift (ok : c.Ok) {d l : Nat} (e : d + l = n) : ∀ {p r : Pm n}, (∃ h, c.In d l h ∧ r = h * p) → ∀ (x : Nat) (bs : List Nat), c.bigF d l = x :: bs → ∃ d2, d2 + 1 + x = n ∧ c.bigF d2 (x + 1) = bs ∧ ∃ h, c.In (d2 + 1) x h ∧ r = h * p := by
  induction d generalizing l with
  | zero => intro p r _ x bs h; simp [Chn.bigF] at h
  | succ d ih =>
    rintro p r ⟨h, hh, rfl⟩ x bs hb
    simp only [Chn.bigF] at hb
    split at hb
    · obtain ⟨rfl, rfl⟩ := List.cons.inj hb
      exact ⟨d, e, rfl, h, hh, rfl⟩
    · rename_i hl
      have one := Chn.one_lift ok (by omega) hl
      obtain ⟨k, f, hk, hf, rfl⟩ := hh.split
      rw [one, List.mem_singleton] at hf
      subst hf
      exact ih (by omega) ⟨k, hk, by rw [Pm.mul_one]⟩ x bs hb
theorem big_end (ok : c.Ok) {d l : Nat} (e : d + l = n) : ∀ {p r : Pm n}, (∃ h, c.In d l h ∧ r = h * p) → c.bigF d l = [] → r = p := by
  induction d generalizing l with
  | zero =>
    rintro p r ⟨h, hh, rfl⟩ _
    have hh : h = 1 := hh
    rw [hh, Pm.one_mul]
  | succ d ih =>
    rintro p r ⟨h, hh, rfl⟩ hb
    simp only [Chn.bigF] at hb
    split at hb
    · cases hb
    · rename_i hl
      have one := Chn.one_lift ok (by omega) hl
      obtain ⟨k, f, hk, hf, rfl⟩ := hh.split
      rw [one, List.mem_singleton] at hf
      subst hf
      exact ih (by omega) ⟨k, hk, by rw [Pm.mul_one]⟩ hb
theorem countP_take_succ {α : Type} {L : List α} {p : α → Bool} {i : Nat} {x : α} (h : L[i]? = some x) : (L.take (i + 1)).countP p = (L.take i).countP p + if p x = true then 1 else 0 := by
  rw [List.take_add_one, h, List.countP_append]
  simp [List.countP_cons]
theorem group_place_of (h : GAt cs g ms c) (h1 : 1 ≤ n) (hn : n ≤ 60) (ok : c.Ok) (sg : ∀ l, l < n → ∀ a b, c.In (n - l) l a → c.In (n - l) l b → c.In (n - l) l (a * b)) (r : Pm n) (q : c.In n 0 r → Q (.v (di (c.pl n 0 r)) cs)) (q2 : ¬ c.In n 0 r → Q (.x 6 cs)) : got (popped f_Group_place_of [.cell g, pD r] cs) Q := by
  refine got_poppedX (got_fn rfl ?_)
  simp [b_Group_place_of, h.obj, grpC]
  refine group_has h h1 hn ok r fun b hb => ?_
  cases b with
  | false =>
    simp
    exact q2 fun hc => Bool.false_ne_true (hb.mpr hc)
  | true =>
    have hin := hb.mp rfl
    simp [h.obj, grpC]
    refine group_size h hn ok ?_
    simp [h.obj, grpC]
    refine still_ok hn ?_
    simp [h.obj, grpC]
    have bl := bigs_len (c := c)
    refine got_for (fun i env cs' => ∃ (m : Nat) (p : Pm n) (d l : Nat) (y5 y6 y7 y8 : Option D), env = [some (.cell g), some (pD r), some (di (c.prodL (c.bigs.drop i))), some (pD p), some (di m), y5, y6, y7, y8] ∧ cs' = cs ∧ d + l = n ∧ c.bigF d l = c.bigs.drop i ∧ (∃ h, c.In d l h ∧ r = h * p) ∧ m + c.pl d l r = c.pl n 0 r)
      ⟨0, 1, n, 0, none, none, none, none, ?_, rfl, rfl, ?_, ⟨r, hin, by rw [Pm.mul_one]⟩, Nat.zero_add _⟩ (fun _ _ _ _ _ => rfl) (fun i x env cs' hx hI => ?_) fun env cs' hI => ?_
    · rw [List.drop_zero, Chn.bigs_eq, Chn.prodL_big ok n 0 rfl]
      rfl
    · rw [List.drop_zero, Chn.bigs_eq]
    · obtain ⟨m, p, d, l0, y5, y6, y7, y8, rfl, rfl, e, hbig, hr, hm⟩ := hI
      rw [List.getElem?_map] at hx
      obtain ⟨l, hlb, rfl⟩ := Option.map_eq_some_iff.mp hx
      have hl := (bigs_lt (List.mem_of_getElem? hlb)).1
      have hdrop : c.bigs.drop i = l :: c.bigs.drop (i + 1) := by
        have hi := (List.getElem?_eq_some_iff.mp hlb).1
        rw [List.drop_eq_getElem_cons hi]
        rw [List.getElem?_eq_getElem hi] at hlb
        rw [Option.some.inj hlb]
      rw [hdrop] at hbig ⊢
      obtain ⟨d2, e2, hb2, hh, hhin, hrh⟩ := big_lift ok e hr l _ hbig
      have hplA : ∀ {d l0 : Nat}, d + l0 = n → (∃ h, c.In d l0 h ∧ r = h * p) → c.bigF d l0 = l :: c.bigs.drop (i + 1) → c.pl d l0 r = c.pl (d2 + 1) l r := by
        intro d
        induction d with
        | zero => intro l0 _ _ hb; simp [Chn.bigF] at hb
        | succ d ih =>
          rintro l0 e ⟨h, hh, hr⟩ hb
          simp only [Chn.bigF] at hb
          split at hb
          · obtain ⟨rfl, hb⟩ := List.cons.inj hb
            have : d = d2 := by omega
            rw [this]
          · rename_i hl2
            have one := Chn.one_lift ok (by omega) hl2
            obtain ⟨k, f, hk, hf, rfl⟩ := hh.split
            rw [one, List.mem_singleton] at hf
            subst hf
            rw [Pm.mul_one] at hr
            rw [← ih (by omega) ⟨k, hk, hr⟩ hb]
            show c.dig l0 r (r l0) * _ + _ = _
            rw [Chn.dig_one ok (by omega) hl2, Nat.zero_mul, Nat.zero_add]
      have hpl := hplA e hr hbig
      have o := ok l hl
      have hD := h.atd hl o.free
      have pd2 : c.prodL (c.bigs.drop (i + 1)) = c.sz d2 (l + 1) := by rw [← hb2, Chn.prodL_big ok d2 (l + 1) (by omega)]
      have lpos : 0 < (c.st l).lifts.length := by obtain ⟨r, e⟩ := o.head; rw [e]; simp
      have ll := o.len_le hl
      have pk : Chn.prodL c (l :: c.bigs.drop (i + 1)) = (c.st l).lifts.length * c.prodL (c.bigs.drop (i + 1)) := rfl
      rw [pk, pd2]
      generalize hP : c.sz d2 (l + 1) = P at *
      have hdiv : (c.st l).lifts.length * P / (c.st l).lifts.length = P := Nat.mul_div_cancel_left _ lpos
      have hdivI : (((c.st l).lifts.length * P : Nat) : Int) / ((c.st l).lifts.length : Int) = (P : Int) := by rw [← Int.natCast_ediv, hdiv]
      have l1 := pow_log (a := (c.st l).lifts.length) (b := 1) (by omega) (by omega)
      have l1' : Nat.log2 (c.st l).lifts.length < 9000 := by omega
      have hkl : (c.st l).keys.length = (c.st l).lifts.length := by unfold Stp.keys; rw [List.length_map]
      simp only [Int.natCast_mul] at hdivI
      obtain ⟨k, f, hk, hf, rfl⟩ := hhin.split
      have kf := Chn.In.fx (l := l + 1) ok (by omega) hk l (Nat.lt_succ_self l)
      have rl : r l = p f.key := by rw [hrh, Pm.mul_ap, Pm.mul_ap, kf, (o.lift f hf).2]
      have hh' : c.In (n - l) l (k * f.g) := by rw [show n - l = d2 + 1 by omega]; exact hhin
      have hdig : c.dig l r (r l) = c.dig l p (p f.key) := by
        rw [rl]
        have := Chn.dig_perm ok hl (p := p) hh' (sg l hl) (p f.key)
        rwa [← hrh] at this
      have hpl2 : c.pl (d2 + 1) l r = c.dig l p (p f.key) * P + c.pl d2 (l + 1) r := by
        show c.dig l r (r l) * c.sz d2 (l + 1) + _ = _
        rw [hdig, hP]
      simp [h.ats hl, hD, hkl, l1', set_at hD, hdivI, lpos, pD_at r hl, rl]
      refine got_for (fun j env cs1 => ∃ (m2 : Nat) (f2 : Lf n) (y8 : Option D), env = [some (.cell g), some (pD r), some (di P), some (pD p), some (di m2), some (.cell (g + 1 + 2 + 3 * l)), some (di (p f.key)), some (di f2.key), y8] ∧ cs1 = cs'.set (g + 1 + 2 + 3 * l + 1) (.lck (c.st l).keys ((c.st l).lifts.map liftD)) ∧ f2 ∈ (c.st l).lifts ∧ m2 = m + ((c.st l).lifts.take j).countP (fun f3 => decide (p f3.key < p f.key)) * P ∧ (f ∈ (c.st l).lifts.take j → f2 = f))
        ⟨m, ⟨l, 1, 0⟩, y8, rfl, rfl, by obtain ⟨r0, e0⟩ := o.head; rw [e0]; exact List.mem_cons_self, by simp, by simp⟩ (fun _ _ _ _ _ => rfl) (fun j x env cs1 hx hI => ?_) fun env cs1 hI => ?_
      · obtain ⟨m2, f2, y8, rfl, rfl, hf2, hm2, hff⟩ := hI
        unfold Stp.keys at hx
        rw [List.getElem?_map] at hx
        obtain ⟨f', hf', rfl⟩ := Option.map_eq_some_iff.mp hx
        have hfm := List.mem_of_getElem? hf'
        have ec := countP_take_succ (p := fun f3 : Lf n => decide (p f3.key < p f.key)) hf'
        have et : (c.st l).lifts.take (j + 1) = (c.st l).lifts.take j ++ [f'] := by rw [List.take_add_one, hf']; rfl
        simp [pD_at p (o.key_lt hl hfm)]
        by_cases hlt : p f'.key < p f.key
        · have hne : ¬ ((p f'.key : Int) = (p f.key : Int)) := by omega
          have hlt' : decide (p f'.key < p f.key) = true := decide_eq_true hlt
          simp [hlt, hne, pD_at p (o.key_lt hl hfm)]
          refine ⟨m2 + P, f2, by simp, hf2, ?_, fun hmem => ?_⟩
          · rw [ec, hlt', if_pos rfl, hm2, Nat.add_mul, Nat.one_mul, Nat.add_assoc]
          · rw [et] at hmem
            rcases List.mem_append.mp hmem with hmem | hmem
            · exact hff hmem
            · rw [List.mem_singleton.mp hmem] at hlt
              exact absurd hlt (Nat.lt_irrefl _)
        · have hlt' : decide (p f'.key < p f.key) = false := decide_eq_false hlt
          by_cases heq : f'.key = f.key
          · have : f' = f := by
              have h1 := find_of o.nodup hf
              have h2 := find_of o.nodup hfm
              rw [heq, h1] at h2
              exact (Option.some.inj h2).symm
            subst this
            simp [pD_at p (o.key_lt hl hfm)]
            refine ⟨m2, f', by simp, hfm, ?_, fun _ => rfl⟩
            rw [ec, hlt']
            simpa using hm2
          · have hne : ¬ ((p f'.key : Int) = (p f.key : Int)) := fun hc => heq (p.inj (by omega))
            simp [hlt, hne, pD_at p (o.key_lt hl hfm)]
            refine ⟨m2, f2, by simp, hf2, ?_, fun hmem => ?_⟩
            · rw [ec, hlt']
              simpa using hm2
            · rw [et] at hmem
              rcases List.mem_append.mp hmem with hmem | hmem
              · exact hff hmem
              · rw [List.mem_singleton.mp hmem] at heq
                exact absurd rfl heq
      · obtain ⟨m2, f2, y8, rfl, rfl, hf2, hm2, hff⟩ := hI
        rw [hkl, List.take_length] at hm2 hff
        have := hff hf
        subst this
        have hm3 : m2 = m + c.dig l p (p f2.key) * P := hm2
        simp [set_at hD, set_same_at hD, h.ats hl, hD]
        have fin : m2 + c.pl d2 (l + 1) r = c.pl n 0 r := by rw [← hm, hpl, hpl2]; omega
        have hr2 : r = k * (f2.g * p) := by rw [hrh, Pm.mul_assoc]
        by_cases e1 : f2.key = l
        · have e3 : f2 = ⟨l, 1, 0⟩ := by
            have h1 := find_of o.nodup hf
            rw [e1, o.find_self] at h1
            exact (Option.some.inj h1).symm
          rw [e3] at hr2
          simp [e1]
          refine ⟨m2, p, by simp [pd2], d2, l + 1, by omega, hb2, ⟨k, hk, by simpa using hr2⟩, fin⟩
        · have e1' : ¬ ((f2.key : Int) = (l : Int)) := by omega
          simp [e1', find_lifts, find_of o.nodup hf, liftD]
          refine behind_ok _ _ hn ?_
          simp
          exact ⟨m2, f2.g * p, by simp [pd2], d2, l + 1, by omega, hb2, ⟨k, hk, hr2⟩, fin⟩
    · obtain ⟨m, p, d, l0, y5, y6, y7, y8, rfl, rfl, e, hbig, hr, hm⟩ := hI
      rw [List.length_map, List.drop_length] at hbig
      have : c.pl d l0 r = 0 := by
        have hrp := big_end ok e hr hbig
        clear hm hr hrp
        induction d generalizing l0 with
        | zero => rfl
        | succ d ih =>
          simp only [Chn.bigF] at hbig
          split at hbig
          · cases hbig
          · rename_i hl2
            show c.dig l0 r (r l0) * _ + _ = _
            rw [Chn.dig_one ok (by omega) hl2, Nat.zero_mul, Nat.zero_add]
            exact ih (l0 + 1) (by omega) hbig
      rw [this, Nat.add_zero] at hm
      subst hm
      simp
      exact ⟨_, [], ⟨rfl, by simp⟩, _, frozen_pure rfl, q hin⟩
end
end Mi
end
section
set_option linter.all false
set_option maxHeartbeats 2000000
namespace Mi
open PySem tb
def Ln.names : Ln → List Nat
  | .beh a b => [a, b]
  | .bck a => [a]
  | _ => []
def Ln.ren (f : Nat → Nat) : Ln → Ln
  | .beh a b => .beh (f a) (f b)
  | .bck a => .bck (f a)
  | x => x
theorem Ln.ren_names (f : Nat → Nat) (x : Ln) : (x.ren f).names = x.names.map f := by cases x <;> rfl
def Ln.args : Ln → List Nat
  | .told k => [k]
  | x => x.names
def Lval (L : List Ln) : Prop := ∀ (i : Nat) (x : Ln), L[i]? = some x → ∀ a ∈ x.names, a < i
theorem oEq_str {a b : Str} {cs : Cs} (ha : a.cps.all (· < 0x110000) = true) (hb : b.cps.all (· < 0x110000) = true) : oEq cs (.str a) (.str b) = some (.bl (decide (a = b))) := by
  unfold oEq
  rw [frozen_pure (d := .str a) rfl, frozen_pure (d := .str b) rfl]
  have e : (D.str a = D.str b) = (a = b) := by simp
  simp [D.fit, D.plain, D.depth, ha, hb, e]
theorem tag_eq {cs : Cs} (x : Ln) : ∃ t : Str, x.D = .tup (.str t :: dis x.args) ∧ oEq cs (.str t) (.str "behind") = some (.bl (match x with | .beh _ _ => true | _ => false)) ∧ oEq cs (.str t) (.str "back") = some (.bl (match x with | .bck _ => true | _ => false)) ∧
    oEq cs (.str t) (.str "still") = some (.bl (match x with | .still => true | _ => false)) ∧ oEq cs (.str t) (.str "told") = some (.bl (match x with | .told _ => true | _ => false)) := by
  cases x <;> refine ⟨_, rfl, ?_, ?_, ?_, ?_⟩ <;> (rw [oEq_str (by decide +kernel) (by decide +kernel)]; first | rfl | (congr 2))
section
variable {cs : Cs} {Q : R D → Prop}
theorem lines_named_ok (x : Ln) (h : Q (.v (tp x.names) cs)) : got (popped f_lines_named [x.D] cs) Q := by
  refine got_popped (got_fn rfl ?_)
  obtain ⟨t, e, h1, h2, _, _⟩ := tag_eq (cs := cs) x
  rw [e]
  have c1 : ∀ (a : D) (r : List D), cut (a :: r) (some (1 : Int)) none = r := fun a r => by
    have := cut_from (xs := a :: r) (l := 1) (by simp)
    simpa using this
  cases x with
  | still =>
    simp [b_lines_named, h1, h2]
    exact ⟨_, [], ⟨rfl, by simp⟩, _, frozen_pure rfl, h⟩
  | told k =>
    simp [b_lines_named, h1, h2]
    exact ⟨_, [], ⟨rfl, by simp⟩, _, frozen_pure rfl, h⟩
  | beh a b =>
    simp [b_lines_named, h1, h2, c1]
    exact ⟨_, [], ⟨rfl, by simp⟩, _, frozen_pure rfl, h⟩
  | bck a =>
    simp [b_lines_named, h1, h2, c1]
    exact ⟨_, [], ⟨rfl, by simp⟩, _, frozen_pure rfl, h⟩
end
abbrev below (p : Nat → Bool) (m : Nat) : List Nat := (List.range m).filter p
def rank (p : Nat → Bool) (x : Nat) : Nat := (below p x).length
theorem below_succ (p : Nat → Bool) (m : Nat) : below p (m + 1) = below p m ++ if p m = true then [m] else [] := by
  unfold below
  rw [List.range_succ, List.filter_append]
  congr 1
  by_cases h : p m = true
  · rw [if_pos h, List.filter_cons, if_pos h]
    rfl
  · rw [if_neg h, List.filter_cons, if_neg h]
    rfl
theorem rank_get {p : Nat → Bool} {x : Nat} (hx : p x = true) : ∀ {m : Nat}, x < m → (below p m)[rank p x]? = some x
  | 0, h => absurd h (Nat.not_lt_zero _)
  | m + 1, h => by
    rw [below_succ]
    by_cases e : x = m
    · subst e
      rw [if_pos hx]
      unfold rank
      simp
    · exact get_app (rank_get hx (by omega)) _
theorem rank_lt {p : Nat → Bool} {x y : Nat} (hx : p x = true) (h : x < y) : rank p x < rank p y := (List.getElem?_eq_some_iff.mp (rank_get hx h)).1
theorem find_rank {p : Nat → Bool} {x : Nat} (hx : p x = true) : ∀ {m : Nat}, x < m → find (di x) (dis (below p m)) (dis (List.range (below p m).length)) = some (di (rank p x)) := by
  have gen : ∀ (L : List Nat) (k : Nat) (i : Nat), L.Nodup → L[i]? = some x → find (di x) (dis L) (dis (List.range' k L.length)) = some (di (k + i)) := fun L => by
    induction L with
    | nil => intro k i _ h; simp at h
    | cons a r ih =>
      intro k i nd h
      rw [List.length_cons, List.range'_succ]
      show (if di a = di x then some (di k) else find (di x) (dis r) (dis (List.range' (k + 1) r.length))) = _
      cases i with
      | zero =>
        simp at h
        rw [if_pos (by rw [h])]
        rfl
      | succ i =>
        simp at h
        have := (List.nodup_cons.mp nd).1
        rw [if_neg fun e => this (by rw [di_inj.mp e]; exact List.mem_of_getElem? h), ih (k + 1) i (List.nodup_cons.mp nd).2 h]
        rw [show k + 1 + i = k + (i + 1) by omega]
  intro m h
  have nd : (below p m).Nodup := (List.nodup_range (n := _)).filter _
  have := gen (below p m) 0 _ nd (rank_get hx h)
  rw [List.range_eq_range']
  rw [this, Nat.zero_add]
structure Trim (L L' : List Ln) : Prop where
  ne : L' ≠ []
  val : Lval L'
  named : ∀ i, i + 1 < L'.length → ∃ (j : Nat) (x : Ln), L'[j]? = some x ∧ i ∈ x.names
  makes : ∀ {n : Nat} (A : List (Pm n)) (p : Pm n), Lv A L (L.length - 1) p → Lv A L' (L'.length - 1) p
  all : ∀ {n : Nat} (A : List (Pm n)), (∀ i, i < L.length → ∃ p, Lv A L i p) → ∀ i, i < L'.length → ∃ p, Lv A L' i p
theorem trim_of {L : List Ln} {N : Nat → Bool} (hL : L ≠ []) (hv : Lval L) (hlast : N (L.length - 1) = true) (hcl : ∀ (i : Nat) (x : Ln), N i = true → L[i]? = some x → ∀ a ∈ x.names, N a = true) (hju : ∀ i, N i = true → i < L.length → i = L.length - 1 ∨ ∃ (j : Nat) (x : Ln), N j = true ∧ L[j]? = some x ∧ i ∈ x.names) :
    Trim L ((below N L.length).map fun i => ((L[i]?).getD .still).ren (rank N)) := by
  have hpos : 0 < L.length := List.length_pos_iff.mpr hL
  have get : ∀ i x, N i = true → L[i]? = some x → ((below N L.length).map fun i => ((L[i]?).getD .still).ren (rank N))[rank N i]? = some (x.ren (rank N)) := fun i x hi hx => by
    rw [List.getElem?_map, rank_get hi (List.getElem?_eq_some_iff.mp hx).1, Option.map_some, hx]
    rfl
  have len : (below N L.length).length = rank N (L.length - 1) + 1 := by
    have : L.length = L.length - 1 + 1 := by omega
    unfold rank
    rw [this, below_succ, if_pos hlast, ← this]
    simp
  have inv : ∀ k x, ((below N L.length).map fun i => ((L[i]?).getD .still).ren (rank N))[k]? = some x → ∃ i y, N i = true ∧ L[i]? = some y ∧ k = rank N i ∧ x = y.ren (rank N) := fun k x h => by
    rw [List.getElem?_map] at h
    obtain ⟨i, hi, rfl⟩ := Option.map_eq_some_iff.mp h
    have hm := List.mem_of_getElem? hi
    rw [List.mem_filter, List.mem_range] at hm
    obtain ⟨y, hy⟩ : ∃ y, L[i]? = some y := ⟨_, List.getElem?_eq_getElem hm.1⟩
    refine ⟨i, y, hm.2, hy, ?_, by rw [hy]; rfl⟩
    have nd : (below N L.length).Nodup := (List.nodup_range (n := _)).filter _
    have h1 := rank_get hm.2 hm.1
    exact (List.getElem?_inj (List.getElem?_eq_some_iff.mp hi).1 nd).mp (hi.trans h1.symm)
  have main : ∀ {n : Nat} (A : List (Pm n)) {i : Nat} {p : Pm n}, Lv A L i p → N i = true → Lv A ((below N L.length).map fun i => ((L[i]?).getD .still).ren (rank N)) (rank N i) p := by
    intro n A i p h
    induction h with
    | still h => exact fun hi => .still (get _ _ hi h)
    | told h e => exact fun hi => .told (get _ _ hi h) e
    | beh h ha hb _ _ ia ib =>
      intro hi
      have n1 := hcl _ _ hi h _ (List.mem_cons_self)
      have n2 := hcl _ _ hi h _ (List.mem_cons_of_mem _ List.mem_cons_self)
      exact .beh (get _ _ hi h) (rank_lt n1 ha) (rank_lt n2 hb) (ia n1) (ib n2)
    | bck h ha _ ia =>
      intro hi
      have n1 := hcl _ _ hi h _ (List.mem_cons_self)
      exact .bck (get _ _ hi h) (rank_lt n1 ha) (ia n1)
  refine ⟨?_, ?_, ?_, ?_, ?_⟩
  · intro e
    have := congrArg List.length e
    rw [List.length_map, len] at this
    simp at this
  · intro k x h a ha
    obtain ⟨i, y, hi, hy, rfl, rfl⟩ := inv k x h
    rw [Ln.ren_names] at ha
    obtain ⟨b, hb, rfl⟩ := List.mem_map.mp ha
    exact rank_lt (hcl i y hi hy b hb) (hv i y hy b hb)
  · intro k hk
    rw [List.length_map] at hk
    have hkl : k < (below N L.length).length := by omega
    have hi := List.getElem?_eq_getElem hkl
    have hm := List.mem_of_getElem? hi
    generalize (below N L.length)[k] = i at *
    rw [List.mem_filter, List.mem_range] at hm
    have nd : (below N L.length).Nodup := (List.nodup_range (n := _)).filter _
    have ek : k = rank N i := (List.getElem?_inj hkl nd).mp (hi.trans (rank_get hm.2 hm.1).symm)
    rcases hju i hm.2 hm.1 with e | ⟨j, x, hj, hx, hin⟩
    · subst e
      omega
    · refine ⟨rank N j, x.ren (rank N), get j x hj hx, ?_⟩
      rw [Ln.ren_names, ek]
      exact List.mem_map.mpr ⟨i, hin, rfl⟩
  · intro n A p h
    rw [List.length_map, len, Nat.add_sub_cancel]
    exact main A h hlast
  · intro n A hA k hk
    obtain ⟨i, y, hi, hy, rfl, _⟩ := inv k _ (List.getElem?_eq_getElem hk)
    obtain ⟨p, hp⟩ := hA i (List.getElem?_eq_some_iff.mp hy).1
    exact ⟨p, main A hp hi⟩
section
variable {cs : Cs} {Q : R D → Prop}
theorem own3 {a b d : Cell} : (cs ++ [a, b, d])[cs.length]? = some a ∧ (cs ++ [a, b, d])[cs.length + 1]? = some b ∧ (cs ++ [a, b, d])[cs.length + 1 + 1]? = some d := by
  refine ⟨?_, ?_, ?_⟩
  · rw [List.getElem?_append_right (Nat.le_refl _), Nat.sub_self]; rfl
  · rw [List.getElem?_append_right (by omega), show cs.length + 1 - cs.length = 1 by omega]; rfl
  · rw [List.getElem?_append_right (by omega), show cs.length + 1 + 1 - cs.length = 2 by omega]; rfl
theorem own3a {a b d : Cell} : (cs ++ [a, b, d])[cs.length]? = some a := own3.1
theorem own3b {a b d : Cell} : (cs ++ [a, b, d])[cs.length + 1]? = some b := own3.2.1
theorem own3c {a b d : Cell} : (cs ++ [a, b, d])[cs.length + 1 + 1]? = some d := own3.2.2
theorem own3k {k : Nat} (h : cs.length + 1 + 1 = k) {a b d : Cell} : (cs ++ [a, b, d])[k]? = some d := by rw [← h]; exact own3c
theorem own3ks {k : Nat} (h : cs.length + 1 + 1 = k) {a b d e : Cell} : (cs ++ [a, b, d]).set k e = cs ++ [a, b, e] := by
  rw [← h, List.set_append_right _ _ (by omega), show cs.length + 1 + 1 - cs.length = 2 by omega]; rfl
theorem own3s {a b d e : Cell} : (cs ++ [a, b, d]).set (cs.length + 1) e = cs ++ [a, e, d] ∧ (cs ++ [a, b, d]).set (cs.length + 1 + 1) e = cs ++ [a, b, e] := by
  refine ⟨?_, ?_⟩
  · rw [List.set_append_right _ _ (by omega), show cs.length + 1 - cs.length = 1 by omega]; rfl
  · rw [List.set_append_right _ _ (by omega), show cs.length + 1 + 1 - cs.length = 2 by omega]; rfl
theorem own3sb {a b d e : Cell} : (cs ++ [a, b, d]).set (cs.length + 1) e = cs ++ [a, e, d] := own3s.1
theorem own3sc {a b d e : Cell} : (cs ++ [a, b, d]).set (cs.length + 1 + 1) e = cs ++ [a, b, e] := own3s.2
def TrJ (L : List Ln) (N : List Nat) : Prop := ∀ b ∈ N, b = L.length - 1 ∨ ∃ (a : Nat) (x : Ln), a ∈ N ∧ L[a]? = some x ∧ b ∈ x.names
theorem dis_take_names (x : Ln) : cut (match x.D with | .tup xs => xs | _ => []) (some (1 : Int)) none = dis x.args := by
  obtain ⟨t, e, _⟩ := tag_eq (cs := []) x
  rw [e]
  have := cut_from (xs := .str t :: dis x.args) (l := 1) (by simp)
  simpa using this
theorem trimmed_ok (L : List Ln) (hL : L ≠ []) (hv : Lval L) (hs : L.length ≤ 8000000) (h : ∀ L', Trim L L' → L'.length ≤ L.length → Q (.v (.lst (L'.map Ln.D)) cs)) : got (popped f_trimmed [.lst (L.map Ln.D)] cs) Q := by
  refine got_popped (got_fn rfl ?_)
  have hpos : 0 < L.length := List.length_pos_iff.mpr hL
  have eL : ((L.length : Int) - 1) = ((L.length - 1 : Nat) : Int) := by omega
  simp [b_trimmed, eL, puts, put]
  refine ⟨by omega, got_for (fun i env cs' => ∃ (N : List Nat) (y2 y3 y4 : Option D), env = [some (.lst (L.map Ln.D)), some (.cell cs.length), y2, y3, y4, none, none, none] ∧ cs' = cs ++ [sd N] ∧ N.Nodup ∧ L.length - 1 ∈ N ∧ (∀ x ∈ N, x < L.length) ∧
    (∀ (a : Nat) (x : Ln), a ∈ N → L.length ≤ a + i → L[a]? = some x → ∀ b ∈ x.names, b ∈ N) ∧ TrJ L N)
    ⟨[L.length - 1], none, none, none, rfl, rfl, by simp, by simp, fun x hx => by rw [List.mem_singleton.mp hx]; omega, fun a x ha hai hx => ?_, fun b hb => .inl (List.mem_singleton.mp hb)⟩ (fun _ _ _ _ _ => rfl) (fun i x env cs' hx hI => ?_) fun env cs' hI => ?_⟩
  · have := (List.getElem?_eq_some_iff.mp hx).1
    omega
  · obtain ⟨N, y2, y3, y4, rfl, rfl, nd, hl, hlt, hcl, hju⟩ := hI
    obtain ⟨hi, rfl⟩ := rng_at hx
    have e2 : (((L.length - 1 : Nat) : Int) - i) = ((L.length - 1 - i : Nat) : Int) := by omega
    have ha : L.length - 1 - i < L.length := by omega
    generalize ea : L.length - 1 - i = a at *
    obtain ⟨y, hy⟩ : ∃ y, L[a]? = some y := ⟨_, List.getElem?_eq_getElem ha⟩
    have q1 : atI (L.map Ln.D) (a : Int) = some y.D := atI_nat (by rw [List.getElem?_map, hy]; rfl)
    have ft := find_tru a N
    by_cases haN : a ∈ N
    · rw [decide_eq_true haN] at ft
      simp [eL, e2, head_at, ft, q1]
      refine lines_named_ok y ?_
      simp
      refine got_for (fun j env cs' => ∃ (N' : List Nat) (y4 : Option D), env = [some (.lst (L.map Ln.D)), some (.cell cs.length), some (di i), some (di a), y4, none, none, none] ∧ cs' = cs ++ [sd N'] ∧ N'.Nodup ∧ (∀ x ∈ N, x ∈ N') ∧ (∀ x ∈ N', x ∈ N ∨ x ∈ y.names) ∧ ∀ k b, k < j → y.names[k]? = some b → b ∈ N')
        ⟨N, y4, rfl, rfl, nd, fun _ h => h, fun _ h => .inl h, fun k b h => absurd h (Nat.not_lt_zero _)⟩ (fun _ _ _ _ _ => rfl) (fun j x env cs' hx hI => ?_) fun env cs' hI => ?_
      · obtain ⟨N', y4, rfl, rfl, nd', hsub, hor, hk⟩ := hI
        rw [List.getElem?_map] at hx
        obtain ⟨b, hb, rfl⟩ := Option.map_eq_some_iff.mp hx
        have hbm := List.mem_of_getElem? hb
        have lt' : N'.length ≤ L.length := nodup_lt nd' fun x hx => (hor x hx).elim (hlt x) fun h => Nat.lt_trans (hv a y hy x h) ha
        simp [head_at, put_tru]
        refine ⟨by omega, addN N' b, ?_, addN_nodup b nd', fun x hx => addN_mem.mpr (.inl (hsub x hx)), fun x hx => ?_, fun k d hkj hd => ?_⟩
        · simp
        · rcases addN_mem.mp hx with h | h
          · exact hor x h
          · rw [h]; exact .inr hbm
        · by_cases e : k = j
          · subst e
            rw [hb] at hd
            cases hd
            exact addN_mem.mpr (.inr rfl)
          · exact addN_mem.mpr (.inl (hk k d (by omega) hd))
      · obtain ⟨N', y4, rfl, rfl, nd', hsub, hor, hk⟩ := hI
        rw [List.length_map] at hk
        simp
        refine ⟨N', ⟨rfl, rfl⟩, nd', hsub _ hl, fun x hx => (hor x hx).elim (hlt x) fun h => Nat.lt_trans (hv a y hy x h) ha, fun a2 x2 h2 h3 h4 b hb => ?_, fun b hb => ?_⟩
        · by_cases e : a2 = a
          · subst e
            rw [hy] at h4
            cases h4
            obtain ⟨k, hkb⟩ := List.getElem?_of_mem hb
            exact hk k b (List.getElem?_eq_some_iff.mp hkb).1 hkb
          · rcases hor a2 h2 with h | h
            · exact hsub _ (hcl a2 x2 h (by omega) h4 b hb)
            · have := hv a y hy a2 h
              omega
        · rcases hor b hb with h | h
          · rcases hju b h with h | ⟨a2, x2, h2, h3, h4⟩
            · exact .inl h
            · exact .inr ⟨a2, x2, hsub _ h2, h3, h4⟩
          · exact .inr ⟨a, y, hsub _ haN, hy, h⟩
    · rw [decide_eq_false haN] at ft
      simp [eL, e2, head_at, ft]
      refine ⟨N, ⟨rfl, rfl⟩, nd, hl, hlt, fun a2 x2 h2 h3 h4 b hb => ?_, hju⟩
      by_cases e : a2 = a
      · subst e
        exact absurd h2 haN
      · exact hcl a2 x2 h2 (by omega) h4 b hb
  · obtain ⟨N, y2, y3, y4, rfl, rfl, nd, hl, hlt, hcl, hju⟩ := hI
    rw [rng_len] at hcl
    have T := trim_of (N := fun a => decide (a ∈ N)) hL hv (decide_eq_true hl) (fun i x hi hx a ha => decide_eq_true (hcl i x (of_decide_eq_true hi) (by omega) hx a ha)) fun i hi _ => (hju i (of_decide_eq_true hi)).imp id fun ⟨j, x, h1, h2, h3⟩ => ⟨j, x, decide_eq_true h1, h2, h3⟩
    generalize eP : (fun a => decide (a ∈ N)) = P at *
    have hP : ∀ a, P a = decide (a ∈ N) := fun a => by rw [← eP]
    simp [puts]
    generalize hk2 : cs.length + 1 + 1 = k2
    refine ⟨by omega, got_for (fun i env cs' => ∃ (y2 y3 y4 y7 : Option D), env = [some (.lst (L.map Ln.D)), some (.cell cs.length), y2, y3, y4, some (.cell (cs.length + 1)), some (.cell k2), y7] ∧ cs' = cs ++ [sd N, .dct (dis (below P i)) (dis (List.range (below P i).length)), .lst (((below P i).map fun i => ((L[i]?).getD .still).ren (rank P)).map Ln.D)])
      ⟨y2, y3, y4, none, by simp [hk2], by simp⟩ (fun _ _ _ _ _ => rfl) (fun i x env cs' hx hI => ?_) fun env cs' hI => ?_⟩
    · obtain ⟨y2, y3, y4, y7, rfl, rfl⟩ := hI
      obtain ⟨hi, rfl⟩ := rng_at hx
      obtain ⟨y, hy⟩ : ∃ y, L[i]? = some y := ⟨_, List.getElem?_eq_getElem hi⟩
      have q1 : atI (L.map Ln.D) (i : Int) = some y.D := atI_nat (by rw [List.getElem?_map, hy]; rfl)
      have ft := find_tru i N
      have bl : (below P i).length ≤ i := by
        have := List.length_filter_le P (List.range i)
        rwa [List.length_range] at this
      by_cases hiN : i ∈ N
      · rw [decide_eq_true hiN] at ft
        have hPi : P i = true := by rw [hP]; exact decide_eq_true hiN
        simp [own3a, ft, q1]
        refine lines_named_ok y ?_
        obtain ⟨t, et, _, _, _, _⟩ := tag_eq (cs := []) y
        have pn : put (di i) (di (below P i).length) (dis (below P i)) (dis (List.range (below P i).length)) = (dis (below P i) ++ [di i], dis (List.range (below P i).length) ++ [di (below P i).length]) := by
          unfold put
          rw [if_neg fun hm => ?_]
          have := mem_dis.mp hm
          rw [List.mem_filter, List.mem_range] at this
          omega
        have bs : below P (i + 1) = below P i ++ [i] := by rw [below_succ, if_pos hPi]
        have lb : (below P i).length < 16777216 := by omega
        have c1 : ∀ (a : D) (r : List D), cut (a :: r) (some (1 : Int)) none = r := fun a r => by
          have := cut_from (xs := a :: r) (l := 1) (by simp)
          simpa using this
        have fr : ∀ b, b ∈ y.names → find (di b) (dis (below P i)) (dis (List.range (below P i).length)) = some (di (rank P b)) := fun b hb => by
          have : P b = true := by rw [hP]; exact decide_eq_true (hcl i y hiN (by omega) hy b hb)
          exact find_rank this (hv i y hy b hb)
        cases y with
        | still =>
          simp [Ln.names, own3b, own3k hk2, own3sb, own3ks hk2, pn, lb]
          rw [bs]
          simp [hy, List.range_succ, Ln.ren]
        | told k =>
          simp [Ln.names, own3b, own3k hk2, own3sb, own3ks hk2, pn, lb]
          rw [bs]
          simp [hy, List.range_succ, Ln.ren]
        | beh a b =>
          have fa := fr a (by simp [Ln.names])
          have fb := fr b (by simp [Ln.names])
          simp [Ln.names, q1, Ln.D, c1, wipe]
          refine got_lc (fun j acc cs' => cs' = cs ++ [sd N, .dct (dis (below P i)) (dis (List.range (below P i).length)), .lst (((below P i).map fun i => ((L[i]?).getD .still).ren (rank P)).map Ln.D)] ∧ acc = (dis [rank P a, rank P b]).take j) ⟨by simp, rfl⟩ (fun _ _ _ _ _ => rfl) (fun j x acc cs' hx hI => ?_) fun acc cs' hI => ?_
          · obtain ⟨rfl, rfl⟩ := hI
            match j, hx with
            | 0, hx =>
              simp at hx
              subst hx
              simp [eYes, own3b, fa]
              exact ⟨_, _, ⟨rfl, rfl⟩, rfl, rfl⟩
            | 1, hx =>
              simp at hx
              subst hx
              simp [eYes, own3b, fb]
              exact ⟨_, _, ⟨rfl, rfl⟩, rfl, rfl⟩
            | j + 2, hx => simp at hx
          · obtain ⟨rfl, rfl⟩ := hI
            simp [own3b, own3k hk2, own3sb, own3ks hk2, pn, lb]
            rw [bs]
            simp [hy, List.range_succ, Ln.ren, Ln.D]
        | bck a =>
          have fa := fr a (by simp [Ln.names])
          simp [Ln.names, q1, Ln.D, c1, wipe]
          refine got_lc (fun j acc cs' => cs' = cs ++ [sd N, .dct (dis (below P i)) (dis (List.range (below P i).length)), .lst (((below P i).map fun i => ((L[i]?).getD .still).ren (rank P)).map Ln.D)] ∧ acc = (dis [rank P a]).take j) ⟨by simp, rfl⟩ (fun _ _ _ _ _ => rfl) (fun j x acc cs' hx hI => ?_) fun acc cs' hI => ?_
          · obtain ⟨rfl, rfl⟩ := hI
            match j, hx with
            | 0, hx =>
              simp at hx
              subst hx
              simp [eYes, own3b, fa]
              exact ⟨_, _, ⟨rfl, rfl⟩, rfl, rfl⟩
            | j + 1, hx => simp at hx
          · obtain ⟨rfl, rfl⟩ := hI
            simp [own3b, own3k hk2, own3sb, own3ks hk2, pn, lb]
            rw [bs]
            simp [hy, List.range_succ, Ln.ren, Ln.D]
      · rw [decide_eq_false hiN] at ft
        have hPi : P i = false := by rw [hP]; exact decide_eq_false hiN
        have bs : below P (i + 1) = below P i := by rw [below_succ, hPi]; simp
        simp [own3a, ft]
        rw [bs]
        simp
    · obtain ⟨y2, y3, y4, y7, rfl, rfl⟩ := hI
      rw [rng_len]
      simp
      refine ⟨_, _, ⟨rfl, rfl⟩, _, frozen_cell (by omega) (own3k hk2) (D.pures_iff.mpr fun x hx => ?_), ?_⟩
      · obtain ⟨z, _, rfl⟩ := List.mem_map.mp hx
        exact Ln.pure _
      · have := h _ T (by
          rw [List.length_map]
          have := List.length_filter_le P (List.range L.length)
          rwa [List.length_range] at this)
        rw [List.map_map] at this
        exact this
end
end Mi
end
section
set_option linter.all false
set_option maxHeartbeats 2000000
namespace Mi
open PySem tb
section
variable {n : Nat} {cs : Cs} {g X : Nat} {ms : List (Pm n)} {c : Chn n} {Q : R D → Prop}
def comp : List (Lf n) → Pm n
  | [] => 1
  | f :: r => comp r * f.g
theorem comp_app (U : List (Lf n)) (f : Lf n) : comp (U ++ [f]) = f.g * comp U := by
  induction U with
  | nil => simp [comp]
  | cons a r ih => simp only [List.cons_append, comp, ih, Pm.mul_assoc]
theorem Lv.take {A : List (Pm n)} {L : List Ln} {i m : Nat} {p : Pm n} (h : Lv A L i p) : i < m → Lv A (L.take m) i p := by
  induction h with
  | still h => exact fun hi => .still (by rw [List.getElem?_take_of_lt hi]; exact h)
  | told h e => exact fun hi => .told (by rw [List.getElem?_take_of_lt hi]; exact h) e
  | beh h ha hb _ _ ia ib => exact fun hi => .beh (by rw [List.getElem?_take_of_lt hi]; exact h) ha hb (ia (by omega)) (ib (by omega))
  | bck h ha _ ia => exact fun hi => .bck (by rw [List.getElem?_take_of_lt hi]; exact h) ha (ia (by omega))
theorem lval_of {A : List (Pm n)} {L : List Ln} (h : Al (some A) L) : Lval L := fun i x hx a ha => by
  obtain ⟨p, hp⟩ := h i (List.getElem?_eq_some_iff.mp hx).1
  cases hp with
  | still e => rw [e] at hx; cases hx; cases ha
  | told e _ => rw [e] at hx; cases hx; cases ha
  | beh e h1 h2 _ _ =>
    rw [e] at hx
    cases hx
    simp [Ln.names] at ha
    rcases ha with rfl | rfl <;> assumption
  | bck e h1 _ =>
    rw [e] at hx
    cases hx
    simp [Ln.names] at ha
    subst ha
    assumption
theorem Lval.take {L : List Ln} (h : Lval L) (m : Nat) : Lval (L.take m) := fun i x hx a ha => by
  rw [List.getElem?_take] at hx
  split at hx
  · exact h i x hx a ha
  · cases hx
structure Rec (ms : List (Pm n)) (r : Pm n) (L : List Ln) : Prop where
  ne : L ≠ []
  val : Lval L
  named : ∀ i, i + 1 < L.length → ∃ (j : Nat) (x : Ln), L[j]? = some x ∧ i ∈ x.names
  makes : Lv ms L (L.length - 1) r
  all : Al (some ms) L
theorem rec_of {L L' : List Ln} {r : Pm n} (h : Trim L L') (hr : Lv ms L (L.length - 1) r) (ha : Al (some ms) L) : Rec ms r L' := ⟨h.ne, h.val, h.named, h.makes ms r hr, h.all ms ha⟩
theorem al_still : Al (some ms) [Ln.still] := fun i hi => by
  have : i = 0 := by simpa using hi
  rw [this]
  exact ⟨1, .still rfl⟩
theorem al_take {L : List Ln} (h : Al (some ms) L) (m : Nat) : Al (some ms) (L.take m) := fun i hi => by
  rw [List.length_take] at hi
  obtain ⟨p, hp⟩ := h i (by omega)
  exact ⟨p, hp.take (by omega)⟩
theorem oEq_nil {cs : Cs} {k : Nat} {l : List Nat} (h : cs[k]? = some (.lst (dis l))) : oEq cs (.cell k) (.lst []) = some (.bl (decide (l = []))) := by
  unfold oEq
  rw [frozen_cell (Nat.zero_le _) h (pures_dis l), frozen_pure (d := .lst []) rfl]
  simp only [Option.bind_some, fit_dl]
  have e : (D.lst (dis l) = D.lst []) = (l = []) := by simp
  simp [D.fit, D.plain, D.plains, D.depth, D.depths, e]
theorem w2a' {x y : Cell} : (cs ++ [x, y])[cs.length]? = some x := by rw [List.getElem?_append_right (Nat.le_refl _), Nat.sub_self]; rfl
theorem group_recipe (h : GAt cs g ms c) (G : Good ms (some ms) X c) (h1 : 1 ≤ n) (hn : n ≤ 60) (hX : X ≤ 1000000) (r : Pm n) (q : c.In n 0 r → ∀ L, Rec ms r L → L.length ≤ 8000000 → Q (.v (.lst (L.map Ln.D)) cs)) (q2 : ¬ c.In n 0 r → Q (.x 6 cs)) : got (popped f_Group_recipe [.cell g, pD r] cs) Q := by
  refine got_poppedX (got_fn rfl ?_)
  have ok := G.ok
  simp [b_Group_recipe, h.obj, grpC]
  refine group_has h h1 hn ok r fun b hb => ?_
  cases b with
  | false =>
    simp
    exact q2 fun hc => Bool.false_ne_true (hb.mpr hc)
  | true =>
    have hin := hb.mp rfl
    have bl := bigs_len (c := c)
    have gob : ∀ own : Cs, (cs ++ own)[g]? = some (grpC g ms c) := fun own => get_app h.obj _
    have c0 : ∀ own : Cs, (cs ++ own)[g + 1]? = some (stC n (g + 1)) := fun own => get_app h.at0 _
    have c1 : ∀ own : Cs, (cs ++ own)[g + 1 + 1]? = some (.lst (c.lines.map Ln.D)) := fun own => get_app h.at1 _
    have phl : c.ph ≤ 651780 := by
      have := Chn.ph_le ok G.ci.gb
      have : n * (3 * (n * n + 1) + n) ≤ 60 * (3 * 3601 + 60) := Nat.mul_le_mul hn (by have : n * n ≤ 3600 := Nat.mul_le_mul hn hn; omega)
      omega
    have lb := G.ci.lb
    simp [gob, grpC]
    refine got_for (fun i env cs' => ∃ (p : Pm n) (U : List (Lf n)) (d l : Nat) (y3 y4 y5 y6 : Option D), env = [some (.cell g), some (pD p), some (.cell cs.length), y3, y4, y5, y6, none, none] ∧ cs' = cs ++ [.lst (dis (U.map Lf.ln))] ∧ d + l = n ∧ c.bigF d l = c.bigs.drop i ∧ c.In d l p ∧ r = p * comp U ∧ U.length ≤ i ∧ ∀ f ∈ U, Lv ms c.lines f.ln f.g)
      ⟨r, [], n, 0, none, none, none, none, rfl, rfl, rfl, by rw [List.drop_zero, Chn.bigs_eq], hin, by simp [comp], Nat.le_refl _, fun f hf => nomatch hf⟩ (fun _ _ _ _ _ => rfl) (fun i x env cs' hx hI => ?_) fun env cs' hI => ?_
    · obtain ⟨p, U, d, l0, y3, y4, y5, y6, rfl, rfl, e, hbig, hp, hr, hU, hUl⟩ := hI
      rw [List.getElem?_map] at hx
      obtain ⟨l, hlb, rfl⟩ := Option.map_eq_some_iff.mp hx
      have hl := (bigs_lt (List.mem_of_getElem? hlb)).1
      have hib : i < c.bigs.length := (List.getElem?_eq_some_iff.mp hlb).1
      have hdrop : c.bigs.drop i = l :: c.bigs.drop (i + 1) := by
        rw [List.drop_eq_getElem_cons hib]
        rw [List.getElem?_eq_getElem hib] at hlb
        rw [Option.some.inj hlb]
      rw [hdrop] at hbig
      obtain ⟨d2, e2, hb2, hh, hhin, hrh⟩ := big_lift ok e ⟨p, hp, (Pm.mul_one p).symm⟩ l _ hbig
      rw [Pm.mul_one] at hrh
      subst hrh
      have o := ok l hl
      obtain ⟨k, f, hk, hf, hpk⟩ := hhin.split
      have kf := Chn.In.fx (l := l + 1) ok (by omega) hk l (Nat.lt_succ_self l)
      have pl : p l = f.key := by rw [hpk, Pm.mul_ap, kf, (o.lift f hf).2]
      have as : ∀ own : Cs, (cs ++ own)[g + 1 + 2 + 3 * l]? = some (.obj 0 [di l, .cell (g + 1 + 2 + 3 * l + 1), .cell (g + 1 + 2 + 3 * l + 2)]) := fun own => get_app (h.ats hl) _
      have ad : ∀ own : Cs, (cs ++ own)[g + 1 + 2 + 3 * l + 1]? = some (.dct (c.st l).keys ((c.st l).lifts.map liftD)) := fun own => get_app (h.atd hl o.free) _
      have q1 := pD_at p hl
      rw [pl] at q1
      simp [as, q1]
      have kk : k = p * f.g⁻¹ := by rw [hpk]; simp [Pm.mul_assoc]
      by_cases e1 : f.key = l
      · have e3 : f = ⟨l, 1, 0⟩ := by
          have h1 := find_of o.nodup hf
          rw [e1, o.find_self] at h1
          exact (Option.some.inj h1).symm
        rw [e3] at kk
        simp at kk
        subst kk
        simp [e1]
        exact ⟨k, rfl, U, rfl, d2, l + 1, by omega, hb2, hk, hr, by omega, hUl⟩
      · have e1' : ¬ ((f.key : Int) = (l : Int)) := by omega
        simp [e1', as, ad, find_lifts, find_of o.nodup hf, liftD, head_at]
        refine ⟨by omega, back_ok _ hn ?_⟩
        simp
        refine behind_ok _ _ hn ?_
        simp
        refine ⟨p * f.g⁻¹, rfl, U ++ [f], ?_, d2, l + 1, by omega, hb2, by rw [← kk]; exact hk, ?_, ?_, ?_⟩
        · simp
        · rw [comp_app, hr]
          simp [Pm.mul_assoc]
        · rw [List.length_append, List.length_singleton]
          omega
        · intro f2 hf2
          rcases List.mem_append.mp hf2 with h2 | h2
          · exact hUl f2 h2
          · rw [List.mem_singleton.mp h2]
            exact G.ci.lok.lifts l hl f hf
    · obtain ⟨p, U, d, l0, y3, y4, y5, y6, rfl, rfl, e, hbig, hp, hr, hU, hUl⟩ := hI
      rw [List.length_map, List.drop_length] at hbig
      rw [List.length_map] at hU
      have hp1 := big_end ok e ⟨p, hp, (Pm.mul_one p).symm⟩ hbig
      subst hp1
      rw [Pm.one_mul] at hr
      have en := oEq_nil (cs := cs ++ [.lst (dis (U.map Lf.ln))]) (k := cs.length) (l := U.map Lf.ln) head_at
      simp only [List.map_map] at en
      by_cases hU0 : U = []
      · subst hU0
        simp at en
        simp [en]
        simp [comp] at hr
        subst hr
        have := q hin [.still] ⟨by simp, fun i x hx a ha => by
          match i, hx with
          | 0, hx => simp at hx; subst hx; cases ha
          | i + 1, hx => simp at hx, fun i hi => by simp at hi, .still rfl, al_still⟩ (by simp)
        exact ⟨_, _, ⟨rfl, rfl⟩, _, frozen_pure rfl, this⟩
      · obtain ⟨U0, f, rfl⟩ : ∃ U0 f, U = U0 ++ [f] := ⟨U.dropLast, U.getLast hU0, (List.dropLast_concat_getLast hU0).symm⟩
        have ul : U0.length ≤ 60 := by rw [List.length_append, List.length_singleton] at hU; omega
        have fl := hUl f (List.mem_append_right _ (by simp))
        simp at en
        simp [en, gob, grpC, c0, c1, stC, own2a, own2b, set2a, set2b, ← List.map_reverse]
        refine got_for (fun i env cs' => ∃ (M : List Ln) (last : Nat) (y6 : Option D), env = [some (.cell g), some (pD (1 : Pm n)), some (.cell cs.length), y3, y4, y5, y6, some (.cell (cs.length + 1)), some (di last)] ∧ cs' = cs ++ [.lst (dis (U0.map Lf.ln)), .lst (M.map Ln.D)] ∧ c.lines <+: M ∧ M.length = c.lines.length + i ∧ Al (some ms) M ∧ last < M.length ∧ Lv ms M last (f.g * comp (U0.drop (U0.length - i))))
          ⟨c.lines, f.ln, y6, by simp, by simp, List.prefix_refl _, rfl, G.ci.lok.al, fl.lt, by simpa [comp] using fl⟩ (fun i env cs' hI _ => ?_) (fun i x env cs' hx hI => ?_) fun env cs' hI => ?_
        · obtain ⟨M, last, y6, rfl, rfl, _⟩ := hI
          simp [stays, own2a, eqCell_rfl]
        · obtain ⟨M, last, y6, rfl, rfl, hpre, hM, hMv, hlast, hLv⟩ := hI
          have hi : i < U0.length := by
            have := (List.getElem?_eq_some_iff.mp hx).1
            simpa using this
          have hj : U0.length - 1 - i < U0.length := by omega
          obtain ⟨f2, hf2⟩ : ∃ f2, U0[U0.length - 1 - i]? = some f2 := ⟨_, List.getElem?_eq_getElem hj⟩
          have ex : x = di f2.ln := by
            rw [List.getElem?_map, List.getElem?_reverse hi, hf2] at hx
            exact (Option.some.inj hx).symm
          subst ex
          have l2 := hUl f2 (List.mem_append_left _ (List.mem_of_getElem? hf2))
          have l2' : Lv ms M f2.ln f2.g := by
            obtain ⟨r, rfl⟩ := hpre
            exact l2.app r
          have sz1 : M.length < 16777216 := by omega
          simp [own2b, set2b, sz1]
          refine ⟨M ++ [.beh last f2.ln], M.length, by simp, ?_, ?_, ?_, ?_, ?_, ?_⟩
          · simp [Ln.D]
          · exact hpre.trans (List.prefix_append _ _)
          · rw [List.length_append, List.length_singleton]; omega
          · exact Al.one (B := some ms) hMv (show Lv ms _ _ _ from Lv.beh (last_get _ _) hlast l2'.lt (hLv.app _) (l2'.app _))
          · rw [List.length_append, List.length_singleton]; omega
          · have ed : U0.drop (U0.length - (i + 1)) = f2 :: U0.drop (U0.length - i) := by
              have h2 := List.drop_eq_getElem_cons (l := U0) (i := U0.length - (i + 1)) (by omega)
              rw [h2, show U0.length - (i + 1) + 1 = U0.length - i by omega]
              congr 1
              rw [List.getElem?_eq_getElem hj] at hf2
              have := Option.some.inj hf2
              rw [← this]
              congr 1
              omega
            rw [ed, comp, ← Pm.mul_assoc]
            exact .beh (last_get _ _) hlast l2'.lt (hLv.app _) (l2'.app _)
        · obtain ⟨M, last, y6, rfl, rfl, hpre, hM, hMv, hlast, hLv⟩ := hI
          have er : List.length (List.map di (List.map Lf.ln U0).reverse) = U0.length := by simp
          simp only [List.length_map, List.length_reverse, Nat.sub_self, List.drop_zero] at hM hLv
          have hLr : Lv ms M last r := by rw [hr, comp_app]; exact hLv
          have cutm : cut (M.map Ln.D) none (some ((last : Int) + 1)) = (M.take (last + 1)).map Ln.D := by
            unfold cut sIx
            have e1 : ¬ ((last : Int) + 1 < 0) := by omega
            have e2 : ((last : Int) + 1).toNat = last + 1 := by omega
            simp only [e1, if_false, e2, List.drop_zero, Nat.sub_zero, List.length_map]
            rw [Nat.min_eq_left (by omega), List.map_take]
          have tl : (M.take (last + 1)).length = last + 1 := by rw [List.length_take]; omega
          have bnd := Chn.ph_le ok G.ci.gb
          simp [own2b, cutm]
          rw [← List.map_take]
          refine trimmed_ok (M.take (last + 1)) (fun e => by rw [e] at tl; simp at tl) ((lval_of hMv).take _) (by omega) fun L' hT hlen => ?_
          simp
          have rc : Rec ms r L' := rec_of hT (by rw [tl, Nat.add_sub_cancel]; exact hLr.take (by omega)) (al_take hMv _)
          refine ⟨_, _, ⟨rfl, rfl⟩, _, frozen_pure (D.pures_iff.mpr fun x hx => ?_), q hin L' rc (by omega)⟩
          obtain ⟨z, _, rfl⟩ := List.mem_map.mp hx
          exact Ln.pure _
end
end Mi
end
section
set_option linter.all false
set_option maxHeartbeats 2000000
namespace Mi
open PySem tb
section
variable {n : Nat} {cs : Cs} {g X : Nat} {ms : List (Pm n)} {c : Chn n} {Q : R D → Prop}
def Chn.lnOf (c : Chn n) (l x : Nat) : Nat := (((c.st l).find x).map Lf.ln).getD 0
def Chn.papD (c : Chn n) (l : Nat) : D := .tup [di l, .lst ((c.orb l).map fun x => .tup [di x, di (c.lnOf l x)])]
theorem papD_pure (l : Nat) : (c.papD l).pure = true := by
  unfold Chn.papD
  simp only [D.pure, D.pures, Bool.and_eq_true, D.pures_iff]
  refine ⟨trivial, fun x hx => ?_, trivial⟩
  obtain ⟨y, _, rfl⟩ := List.mem_map.mp hx
  rfl
theorem group_paper (h : GAt cs g ms c) (hn : n ≤ 60) (ok : c.Ok) (hls : c.lines.length ≤ 8000000) (q : Q (.v (.tup [.lst (c.lines.map Ln.D), .lst (c.bigs.map c.papD)]) cs)) : got (popped f_Group_paper [.cell g] cs) Q := by
  refine got_popped (got_fn rfl ?_)
  have bl := bigs_len (c := c)
  have gob : ∀ own : Cs, (cs ++ own)[g]? = some (grpC g ms c) := fun own => get_app h.obj _
  have c0 : ∀ own : Cs, (cs ++ own)[g + 1]? = some (stC n (g + 1)) := fun own => get_app h.at0 _
  have c1 : ∀ own : Cs, (cs ++ own)[g + 1 + 1]? = some (.lst (c.lines.map Ln.D)) := fun own => get_app h.at1 _
  simp [b_Group_paper, gob, grpC]
  refine got_for (fun i env cs' => ∃ (y2 y3 : Option D), env = [some (.cell g), some (.cell cs.length), y2, y3] ∧ cs' = cs ++ [.lst ((c.bigs.take i).map c.papD)])
    ⟨none, none, rfl, rfl⟩ (fun _ _ _ _ _ => rfl) (fun i x env cs' hx hI => ?_) fun env cs' hI => ?_
  · obtain ⟨y2, y3, rfl, rfl⟩ := hI
    rw [List.getElem?_map] at hx
    obtain ⟨l, hlb, rfl⟩ := Option.map_eq_some_iff.mp hx
    have hl := (bigs_lt (List.mem_of_getElem? hlb)).1
    have hib : i < c.bigs.length := (List.getElem?_eq_some_iff.mp hlb).1
    have o := ok l hl
    have as : ∀ own : Cs, (cs ++ own)[g + 1 + 2 + 3 * l]? = some (.obj 0 [di l, .cell (g + 1 + 2 + 3 * l + 1), .cell (g + 1 + 2 + 3 * l + 2)]) := fun own => get_app (h.ats hl) _
    have ad : ∀ own : Cs, (cs ++ own)[g + 1 + 2 + 3 * l + 1]? = some (.dct (c.st l).keys ((c.st l).lifts.map liftD)) := fun own => get_app (h.atd hl o.free) _
    have ll := o.len_le hl
    have ol : (c.orb l).length ≤ n := by
      unfold Chn.orb
      rw [(srt_perm _).length_eq, List.length_map]
      exact ll
    have tl : min i c.bigs.length < 16777216 := by omega
    simp [head_at, as, ad, tl]
    rw [keys_dis, intsOf_dis, got_some, sortI_nat]
    refine ⟨by rw [List.length_map, List.length_map]; omega, ?_⟩
    refine got_lc_map (fun d => match d with | .int x => .tup [d, di (c.lnOf l x.toNat)] | d => d) rfl (by rw [List.length_map]; show (c.orb l).length ≤ 16777216; omega) (fun x hx => ?_) ?_
    · obtain ⟨y, hy, rfl⟩ := List.mem_map.mp hx
      obtain ⟨f, hf, rfl⟩ := orb_mem.mp hy
      simp [eYes, wipe, as, ad, find_lifts, find_of o.nodup hf, liftD, Chn.lnOf]
    · simp [head_at, tl]
      rw [List.take_add_one, List.getElem?_map, hlb]
      simp [Chn.papD, Chn.orb]
  · obtain ⟨y2, y3, rfl, rfl⟩ := hI
    rw [List.length_map, List.take_length]
    simp [gob, grpC, c0, c1, stC]
    have ps : D.pures (c.bigs.map c.papD) = true := D.pures_iff.mpr fun x hx => by
      obtain ⟨l, _, rfl⟩ := List.mem_map.mp hx
      exact papD_pure l
    have pl : (D.lst (c.lines.map Ln.D)).pure = true := D.pures_iff.mpr fun x hx => by
      obtain ⟨z, _, rfl⟩ := List.mem_map.mp hx
      exact Ln.pure _
    have fc := frozen_cell (n := cs.length) (cs := cs ++ [.lst (c.bigs.map c.papD)]) (k := cs.length) (Nat.le_refl _) head_at ps
    have fp := frozen_pure (n := cs.length) (cs := cs ++ [.lst (c.bigs.map c.papD)]) pl
    refine ⟨_, _, ⟨rfl, rfl⟩, .tup [.lst (c.lines.map Ln.D), .lst (c.bigs.map c.papD)], ?_, q⟩
    unfold frozen at fc fp ⊢
    simp only [D.subst, D.substs] at fc fp ⊢
    rw [fp, fc]
    rfl
end
end Mi
end
section
set_option linter.all false
namespace Mi
open PySem
namespace Pm
variable {n : Nat}
def swf (a b x : Nat) : Nat := if x = a then b else if x = b then a else x
theorem swf_swf (a b x : Nat) : swf a b (swf a b x) = x := by
  unfold swf
  by_cases h : x = a
  · subst h
    by_cases h2 : b = x
    · simp [h2]
    · simp [h2]
  · by_cases h2 : x = b
    · subst h2
      simp [h]
    · simp [h, h2]
theorem swf_inj {a b x y : Nat} (h : swf a b x = swf a b y) : x = y := by rw [← swf_swf a b x, h, swf_swf]
theorem swf_lt {a b i : Nat} (ha : a < n) (hb : b < n) (hi : i < n) : swf a b i < n := by
  unfold swf
  repeat' split
  all_goals assumption
def sw (a b : Nat) (ha : a < n) (hb : b < n) : Pm n := ofF (swf a b) (fun i hi => swf_lt ha hb hi) fun _ _ _ _ h => swf_inj h
theorem sw_ap {a b : Nat} {ha : a < n} {hb : b < n} (x : Nat) : sw a b ha hb x = swf a b x := by
  by_cases h : x < n
  · exact ofF_ap h
  · rw [ap_ge _ (by omega)]
    unfold swf
    rw [if_neg (by omega), if_neg (by omega)]
theorem sw_l {a b : Nat} {ha : a < n} {hb : b < n} : sw a b ha hb a = b := by rw [sw_ap]; simp [swf]
theorem sw_r {a b : Nat} {ha : a < n} {hb : b < n} : sw a b ha hb b = a := by
  rw [sw_ap]
  unfold swf
  split <;> simp_all
theorem sw_o {a b : Nat} {ha : a < n} {hb : b < n} {x : Nat} (h1 : x ≠ a) (h2 : x ≠ b) : sw a b ha hb x = x := by
  rw [sw_ap]
  simp [swf, h1, h2]
theorem sw_conj (p : Pm n) {a b : Nat} (ha : a < n) (hb : b < n) : p⁻¹ * sw a b ha hb * p = sw (p a) (p b) (p.ap_lt ha) (p.ap_lt hb) := ext' fun x => by
  obtain ⟨y, rfl⟩ := p.surj x
  rw [mul_ap, mul_ap, inv_ap]
  by_cases h1 : y = a
  · subst h1
    rw [sw_l, sw_l]
  · by_cases h2 : y = b
    · subst h2
      rw [sw_r, sw_r]
    · rw [sw_o h1 h2, sw_o (fun e => h1 (p.inj e)) fun e => h2 (p.inj e)]
theorem sw_comm {a b : Nat} (ha : a < n) (hb : b < n) : sw a b ha hb = sw b a hb ha := ext' fun x => by
  rw [sw_ap, sw_ap]
  unfold swf
  by_cases h1 : x = a <;> by_cases h2 : x = b <;> simp [h1, h2] <;> omega
theorem sw_self {a : Nat} (ha : a < n) : sw a a ha ha = 1 := ext' fun x => by
  rw [sw_ap, one_ap]
  unfold swf
  split <;> simp_all
end Pm
section
variable {n : Nat}
def Sy (W : Nat → Prop) (g : Pm n) : Prop := ∀ x, ¬ W x → g x = x
theorem Sy.sg (W : Nat → Prop) : Sg (Sy (n := n) W) := ⟨fun x _ => by simp, fun ha hb x hx => by simp [ha x hx, hb x hx], fun ha x hx => by rw [Pm.inv_ap_eq]; exact ha x hx⟩
theorem Sy.to {W : Nat → Prop} {g : Pm n} (h : Sy W g) {x : Nat} (hx : W x) : W (g x) := Classical.byContradiction fun hn => hn (by
  have := h (g x) hn
  rw [g.inj this]
  exact hx)
theorem Sy.sw {W : Nat → Prop} {a b : Nat} (ha : a < n) (hb : b < n) (h1 : W a) (h2 : W b) : Sy W (Pm.sw a b ha hb : Pm n) := fun x hx => Pm.sw_o (fun e => hx (e ▸ h1)) fun e => hx (e ▸ h2)
theorem sy_gen {W : Nat → Prop} {H : Pm n → Prop} (sg : Sg H) (h : ∀ a b (ha : a < n) (hb : b < n), W a → W b → H (Pm.sw a b ha hb)) {g : Pm n} (hg : Sy W g) : H g := by
  have : ∀ k, k ≤ n → ∃ u, H u ∧ Sy W u ∧ Fx k (g * u) := fun k => by
    induction k with
    | zero => exact fun _ => ⟨1, sg.one, (Sy.sg W).one, Fx.zero _⟩
    | succ k ih =>
      intro hk
      obtain ⟨u, hu, sy, fx⟩ := ih (by omega)
      by_cases e : (g * u) k = k
      · exact ⟨u, hu, sy, fx.succ e⟩
      · have hy := (Sy.sg W).mul hg sy
        have wk : W k := Classical.byContradiction fun hn => e (hy k hn)
        have wk2 := hy.to wk
        have lt := (g * u).ap_lt (show k < n by omega)
        refine ⟨u * Pm.sw ((g * u) k) k lt (by omega), sg.mul hu (h _ _ _ _ wk2 wk), (Sy.sg W).mul sy (Sy.sw _ _ wk2 wk), ?_⟩
        rw [← Pm.mul_assoc]
        refine Fx.succ (fun i hi => ?_) (by rw [Pm.mul_ap, Pm.sw_l])
        rw [Pm.mul_ap, fx i hi]
        refine Pm.sw_o (fun e2 => ?_) (by omega)
        rw [← fx i hi] at e2
        have := (g * u).inj e2
        omega
  obtain ⟨u, hu, _, fx⟩ := this n (Nat.le_refl _)
  have e := fx.all
  have : g = u⁻¹ := by
    have := congrArg (· * u⁻¹) e
    simpa [Pm.mul_assoc] using this
  rw [this]
  exact sg.inv hu
theorem rise_least {r due : Pm n} {S : Nat → Prop} (hs : ∀ x, ¬ S x → r x = due x) (hr : ∀ i j, S i → S j → i < j → due i < due j) : r = due ∨ due.lt r := by
  by_cases e : r = due
  · exact .inl e
  · rcases Pm.lt_or e with ⟨i, hi, hm⟩ | h
    · exfalso
      have si : S i := Classical.byContradiction fun hn => by
        have := hs i hn
        omega
      obtain ⟨k, hk⟩ := due.surj (r i)
      have sk : S k := Classical.byContradiction fun hn => by
        have h2 := hs k hn
        rw [hk] at h2
        have := r.inj h2
        subst this
        exact hn si
      rcases Nat.lt_trichotomy k i with h | h | h
      · have h2 := hm k h
        rw [hk] at h2
        have := r.inj h2
        omega
      · subst h
        omega
      · have := hr i k si sk h
        omega
    · exact .inr h
end
end Mi
end
section
set_option linter.all false
set_option maxHeartbeats 1000000
namespace Mi
open PySem
def fac : Nat → Nat
  | 0 => 1
  | n + 1 => (n + 1) * fac n
theorem fac_pos : ∀ n, 0 < fac n
  | 0 => Nat.one_pos
  | n + 1 => Nat.mul_pos (by omega) (fac_pos n)
def byN : Nat → List Nat → Nat → List Nat
  | 0, _, _ => []
  | m + 1, left, num => left.getD (num / fac m) 0 :: byN m (left.eraseIdx (num / fac m)) (num % fac m)
theorem byN_perm : ∀ {m : Nat} {left : List Nat} {num : Nat}, left.length = m → num < fac m → (byN m left num).Perm left
  | 0, left, num, h, _ => by
    rw [List.length_eq_zero_iff.mp h]
    exact List.Perm.refl _
  | m + 1, left, num, h, hn => by
    have hq : num / fac m < left.length := by
      rw [h]
      exact (Nat.div_lt_iff_lt_mul (fac_pos m)).mpr hn
    have ih := byN_perm (m := m) (left := left.eraseIdx (num / fac m)) (num := num % fac m) (by rw [List.length_eraseIdx_of_lt hq]; omega) (Nat.mod_lt _ (fac_pos m))
    simp only [byN]
    have e : left.getD (num / fac m) 0 = left[num / fac m] := by rw [List.getD_eq_getElem?_getD, List.getElem?_eq_getElem hq]; rfl
    rw [e]
    refine (ih.cons _).trans ?_
    rw [List.eraseIdx_eq_take_drop_succ]
    refine (List.perm_middle (a := left[num / fac m]) (l₁ := left.take (num / fac m)) (l₂ := left.drop (num / fac m + 1))).symm.trans ?_
    rw [← List.drop_eq_getElem_cons hq, List.take_append_drop]
theorem ex_made {n : Nat} {w v : List Nat} (hw : w.Nodup) (hl : ∀ x ∈ w, x < n) (hv : v.Perm w) : ∃ p : Pm n, (∀ (i a b : Nat), w[i]? = some a → v[i]? = some b → p a = b) ∧ ∀ x, x ∉ w → p x = x := by
  have vn : v.Nodup := hv.nodup_iff.mpr hw
  have len := hv.length_eq
  let f : Nat → Nat := fun x => v.getD (w.idxOf x) x
  have fw : ∀ (i a b : Nat), w[i]? = some a → v[i]? = some b → f a = b := fun i a b h1 h2 => by
    have : w.idxOf a = i := by
      have h3 := List.idxOf_lt_length_iff.mpr (List.mem_of_getElem? h1)
      have h4 : w[w.idxOf a]? = some a := by rw [List.getElem?_eq_getElem h3, List.getElem_idxOf h3]
      exact (List.getElem?_inj h3 hw).mp (h4.trans h1.symm)
    show v.getD (w.idxOf a) a = b
    rw [this, List.getD_eq_getElem?_getD, h2]
    rfl
  have fo : ∀ x, x ∉ w → f x = x := fun x hx => by
    show v.getD (w.idxOf x) x = x
    rw [List.idxOf_eq_length hx, List.getD_eq_getElem?_getD, List.getElem?_eq_none (by omega)]
    rfl
  have fm : ∀ x, x ∈ w → ∃ i, w[i]? = some x ∧ v[i]? = some (f x) := fun x hx => by
    obtain ⟨i, hi⟩ := List.getElem?_of_mem hx
    have hil := (List.getElem?_eq_some_iff.mp hi).1
    have hb := List.getElem?_eq_getElem (l := v) (show i < v.length by omega)
    exact ⟨i, hi, by rw [fw i x _ hi hb]; exact hb⟩
  have fin : ∀ x, x ∈ w → f x ∈ w := fun x hx => by
    obtain ⟨i, _, h⟩ := fm x hx
    exact hv.subset (List.mem_of_getElem? h)
  let p : Pm n := Pm.ofF f (fun i hi => by
    by_cases h : i ∈ w
    · exact hl _ (fin i h)
    · rw [fo i h]; exact hi) fun i j hi hj e => by
    by_cases h1 : i ∈ w
    · by_cases h2 : j ∈ w
      · obtain ⟨a, ha, hva⟩ := fm i h1
        obtain ⟨b, hb, hvb⟩ := fm j h2
        rw [e] at hva
        have := (List.getElem?_inj (List.getElem?_eq_some_iff.mp hva).1 vn).mp (hva.trans hvb.symm)
        subst this
        rw [ha] at hb
        exact Option.some.inj hb
      · rw [fo j h2] at e
        exact absurd (e ▸ fin i h1) h2
    · by_cases h2 : j ∈ w
      · rw [fo i h1] at e
        exact absurd (e ▸ fin j h2) h1
      · rwa [fo i h1, fo j h2] at e
  have pf : ∀ x, x < n → p x = f x := fun x hx => Pm.ofF_ap hx
  refine ⟨p, fun i a b h1 h2 => ?_, fun x hx => ?_⟩
  · rw [pf a (hl a (List.mem_of_getElem? h1)), fw i a b h1 h2]
  · by_cases h : x < n
    · rw [pf x h, fo x hx]
    · exact p.ap_ge (by omega)
theorem rise_drop : ∀ {w : List Nat} {i l : Nat}, w.Pairwise (· < ·) → w[i]? = some l → w.filter (fun x => decide (l ≤ x)) = w.drop i
  | [], i, l, _, h => by simp at h
  | a :: r, 0, l, p, h => by
    simp at h
    subst h
    rw [List.drop_zero, List.filter_eq_self]
    intro x hx
    rcases List.mem_cons.mp hx with rfl | hx
    · simp
    · have := (List.pairwise_cons.mp p).1 x hx
      simp
      omega
  | a :: r, i + 1, l, p, h => by
    simp at h
    have := (List.pairwise_cons.mp p).1 l (List.mem_of_getElem? h)
    rw [List.filter_cons, if_neg (by simp; omega), rise_drop (List.pairwise_cons.mp p).2 h]
    rfl
section
variable {n : Nat} {w : List Nat} {c : Chn n}
structure AllOf (c : Chn n) (w : List Nat) : Prop where
  rise : w.Pairwise (· < ·)
  lt : ∀ x ∈ w, x < n
  ok : c.Ok
  sg : ∀ l, l < n → ∀ a b, c.In (n - l) l a → c.In (n - l) l b → c.In (n - l) l (a * b)
  in_ : ∀ g, c.In n 0 g ↔ Sy (· ∈ w) g
theorem AllOf.key (H : AllOf c w) {l x : Nat} (hl : l < n) : (∃ f ∈ (c.st l).lifts, f.key = x) ↔ if l ∈ w then x ∈ w ∧ l ≤ x else x = l := by
  rw [Chn.key_iff H.ok hl]
  constructor
  · rintro ⟨g, hg, rfl⟩
    obtain ⟨h1, h2⟩ := (Chn.in_fx H.ok (by omega)).mp hg
    rw [H.in_] at h1
    split
    · rename_i hw
      refine ⟨h1.to hw, Nat.le_of_not_lt fun hlt => ?_⟩
      have := h2 _ hlt
      have := g.inj this
      omega
    · rename_i hw
      exact h1 l hw
  · intro h
    split at h
    · rename_i hw
      refine ⟨Pm.sw l x hl (H.lt x h.1), (Chn.in_fx H.ok (by omega)).mpr ⟨(H.in_ _).mpr (Sy.sw _ _ hw h.1), fun i hi => Pm.sw_o (by omega) (by omega)⟩, Pm.sw_l⟩
    · exact ⟨1, Chn.in_one H.ok (by omega), by rw [h]; simp⟩
theorem AllOf.keys (H : AllOf c w) {l : Nat} (hl : l < n) : ((c.st l).lifts.map Lf.key).Perm (if l ∈ w then w.filter (fun x => decide (l ≤ x)) else [l]) := by
  refine (List.perm_ext_iff_of_nodup (H.ok l hl).nodup ?_).mpr fun x => ?_
  · split
    · exact (H.rise.imp fun h => Nat.ne_of_lt h).filter _
    · simp
  · rw [List.mem_map, H.key hl]
    split <;> simp
theorem AllOf.orb (H : AllOf c w) {l : Nat} (hl : l < n) : c.orb l = if l ∈ w then w.filter (fun x => decide (l ≤ x)) else [l] := by
  refine rise_eq (orb_rise (H.ok l hl)) ?_ fun x => ?_
  · split
    · exact H.rise.filter _
    · simp
  · rw [orb_mem, H.key hl]
    split <;> simp
def cw (w : List Nat) (l : Nat) : Nat := (w.filter fun x => decide (l ≤ x)).length
theorem AllOf.len (H : AllOf c w) {l : Nat} (hl : l < n) : (c.st l).lifts.length = if l ∈ w then cw w l else 1 := by
  have := (H.keys hl).length_eq
  rw [List.length_map] at this
  rw [this]
  split <;> rfl
theorem cw_in {l : Nat} (hr : w.Pairwise (· < ·)) (h : l ∈ w) : cw w l = cw w (l + 1) + 1 := by
  obtain ⟨i, hi⟩ := List.getElem?_of_mem h
  unfold cw
  have hil := (List.getElem?_eq_some_iff.mp hi).1
  have e1 := rise_drop hr hi
  have e2 : w.filter (fun x => decide (l + 1 ≤ x)) = (w.filter (fun x => decide (l ≤ x))).filter fun x => decide (l + 1 ≤ x) := by
    rw [List.filter_filter]
    refine List.filter_congr fun x _ => ?_
    by_cases h : l + 1 ≤ x
    · have : l ≤ x := by omega
      simp [h, this]
    · simp [h]
  have e3 : w.drop i = l :: w.drop (i + 1) := by
    rw [List.drop_eq_getElem_cons hil]
    rw [List.getElem?_eq_getElem hil] at hi
    rw [Option.some.inj hi]
  have p3 : (w.drop i).Pairwise (· < ·) := hr.sublist (List.drop_sublist _ _)
  rw [e3] at p3
  rw [e2, e1, e3, List.filter_cons, if_neg (by simp), List.length_cons]
  congr 2
  refine (List.filter_eq_self.mpr fun x hx => ?_).symm
  have := (List.pairwise_cons.mp p3).1 x hx
  simp
  omega
theorem cw_out {l : Nat} (h : l ∉ w) : cw w l = cw w (l + 1) := by
  unfold cw
  congr 1
  refine List.filter_congr fun x hx => decide_eq_decide.mpr ?_
  have : x ≠ l := fun e => h (e ▸ hx)
  omega
theorem AllOf.sz (H : AllOf c w) : ∀ {d l : Nat}, d + l = n → c.sz d l = fac (cw w l)
  | 0, l, e => by
    have : cw w l = 0 := by
      unfold cw
      rw [List.length_eq_zero_iff, List.filter_eq_nil_iff]
      intro x hx
      have := H.lt x hx
      simp
      omega
    rw [this]
    rfl
  | d + 1, l, e => by
    have hl : l < n := by omega
    have ih := H.sz (d := d) (l := l + 1) (by omega)
    simp only [Chn.sz]
    rw [H.len hl, ih]
    split
    · rename_i h
      rw [cw_in H.rise h]
      rfl
    · rename_i h
      rw [cw_out h, Nat.one_mul]
theorem cw_zero (w : List Nat) : cw w 0 = w.length := by
  unfold cw
  congr 1
  rw [List.filter_eq_self]
  simp
theorem AllOf.bigs (H : AllOf c w) : c.bigs = w.dropLast := by
  have br : c.bigs.Pairwise (· < ·) := by
    unfold Chn.bigs
    exact rise_filter (rise_range n) _
  refine rise_eq br (H.rise.sublist (List.dropLast_sublist _)) fun x => ?_
  have xr : x ∈ c.bigs ↔ x < n ∧ 1 < (c.st x).lifts.length := by
    unfold Chn.bigs
    rw [List.mem_filter, List.mem_range, decide_eq_true_iff]
  rw [xr]
  constructor
  · rintro ⟨hx, hl⟩
    rw [H.len hx] at hl
    split at hl
    · rename_i hw
      obtain ⟨i, hi⟩ := List.getElem?_of_mem hw
      have hil := (List.getElem?_eq_some_iff.mp hi).1
      unfold cw at hl
      rw [rise_drop H.rise hi, List.length_drop] at hl
      rw [List.dropLast_eq_take]
      refine List.mem_of_getElem? (i := i) ?_
      rw [List.getElem?_take_of_lt (by omega)]
      exact hi
    · omega
  · intro hx
    have hw := (List.dropLast_sublist w).subset hx
    refine ⟨H.lt x hw, ?_⟩
    rw [H.len (H.lt x hw), if_pos hw]
    rw [List.dropLast_eq_take] at hx
    obtain ⟨i, hi⟩ := List.getElem?_of_mem hx
    have h1 := (List.getElem?_eq_some_iff.mp hi).1
    rw [List.length_take] at h1
    rw [List.getElem?_take_of_lt (by omega)] at hi
    unfold cw
    rw [rise_drop H.rise hi, List.length_drop]
    omega
theorem AllOf.pl (H : AllOf c w) {due : Pm n} : ∀ {d l m num : Nat} {left : List Nat}, d + l = n → (w.filter fun x => decide (l ≤ x)).map due = byN m left num → left.length = m → num < fac m → left.Pairwise (· < ·) → c.pl d l due = num
  | 0, l, m, num, left, e, hm, hl, hn, hr => by
    have : w.filter (fun x => decide (l ≤ x)) = [] := by
      rw [List.filter_eq_nil_iff]
      intro x hx
      have := H.lt x hx
      simp
      omega
    rw [this] at hm
    cases m with
    | zero => simp only [fac] at hn; simp only [Chn.pl]; omega
    | succ m => simp [byN] at hm
  | d + 1, l, m, num, left, e, hm, hl, hn, hr => by
    have hln : l < n := by omega
    have dg : ∀ v, c.dig l due v = (if l ∈ w then w.filter (fun x => decide (l ≤ x)) else [l]).countP fun x => decide (due x < v) := fun v => by
      have := (H.keys hln).countP_eq fun x => decide (due x < v)
      rw [List.countP_map] at this
      exact this
    simp only [Chn.pl]
    by_cases hw : l ∈ w
    · rw [dg, if_pos hw]
      have cwi := cw_in H.rise hw
      obtain ⟨i, hi⟩ := List.getElem?_of_mem hw
      have hil := (List.getElem?_eq_some_iff.mp hi).1
      have e1 := rise_drop H.rise hi
      have e3 : w.drop i = l :: w.drop (i + 1) := by
        rw [List.drop_eq_getElem_cons hil]
        rw [List.getElem?_eq_getElem hil] at hi
        rw [Option.some.inj hi]
      have p3 : (w.drop i).Pairwise (· < ·) := H.rise.sublist (List.drop_sublist _ _)
      rw [e3] at p3
      have e2 : w.filter (fun x => decide (l + 1 ≤ x)) = w.drop (i + 1) := by
        have : w.filter (fun x => decide (l + 1 ≤ x)) = (w.filter (fun x => decide (l ≤ x))).filter fun x => decide (l + 1 ≤ x) := by
          rw [List.filter_filter]
          refine List.filter_congr fun x _ => ?_
          by_cases h : l + 1 ≤ x
          · have : l ≤ x := by omega
            simp [h, this]
          · simp [h]
        rw [this, e1, e3, List.filter_cons, if_neg (by simp)]
        refine List.filter_eq_self.mpr fun x hx => ?_
        have := (List.pairwise_cons.mp p3).1 x hx
        simp
        omega
      have pm := byN_perm hl hn
      rw [← hm] at pm
      have cnt := pm.countP_eq fun y => decide (y < due l)
      rw [List.countP_map] at cnt
      have lm : cw w l = m := by
        have := pm.length_eq
        rw [List.length_map, hl] at this
        exact this
      obtain ⟨m, rfl⟩ : ∃ k, m = k + 1 := ⟨m - 1, by omega⟩
      have hm2 := hm
      rw [e1, e3, List.map_cons] at hm2
      simp only [byN] at hm2
      obtain ⟨h1, h2⟩ := List.cons.inj hm2
      have hq : num / fac m < left.length := by
        rw [hl]
        exact (Nat.div_lt_iff_lt_mul (fac_pos m)).mpr hn
      have eq : left[num / fac m]? = some (due l) := by
        rw [h1, List.getD_eq_getElem?_getD, List.getElem?_eq_getElem hq]
        rfl
      have rc := rise_count hr eq
      have ih := H.pl (d := d) (l := l + 1) (m := m) (num := num % fac m) (left := left.eraseIdx (num / fac m)) (by omega) (by rw [e2]; exact h2) (by rw [List.length_eraseIdx_of_lt hq]; omega) (Nat.mod_lt _ (fac_pos m)) (hr.sublist (List.eraseIdx_sublist _ _))
      rw [ih, H.sz (by omega), show cw w (l + 1) = m by omega]
      have : (w.filter fun x => decide (l ≤ x)).countP (fun x => decide (due x < due l)) = num / fac m := by
        rw [← rc, ← cnt]
        rfl
      rw [this, Nat.mul_comm]
      exact Nat.div_add_mod num (fac m)
    · have : w.filter (fun x => decide (l + 1 ≤ x)) = w.filter fun x => decide (l ≤ x) := by
        refine List.filter_congr fun x hx => decide_eq_decide.mpr ?_
        have : x ≠ l := fun e => hw (e ▸ hx)
        omega
      rw [dg, if_neg hw]
      have ih := H.pl (d := d) (l := l + 1) (m := m) (num := num) (left := left) (by omega) (by rw [this]; exact hm) hl hn hr
      rw [ih]
      simp
end
end Mi
end
section
set_option linter.all false
namespace Mi
open PySem
section
variable {n : Nat} {cs : Cs} {g k j : Nat} {ms : List (Pm n)} {c : Chn n}
theorem CAt.app (h : CAt cs k c) (own : Cs) : CAt (cs ++ own) k c := by
  refine ⟨?_, by rw [List.length_append]; have := h.fit; omega⟩
  refine List.ext_getElem? fun i => ?_
  rw [wr_get]
  by_cases hi : i < cs.length
  · rw [List.getElem?_append_left hi]
    have := congrArg (·[i]?) h.eq
    simp only [wr_get] at this
    exact this
  · rw [blk_far (.inr (by have := h.fit; omega))]
    simp
theorem CAt.set (h : CAt cs k c) (x : Cell) (hj : j < k ∨ k + 2 + 3 * n ≤ j) : CAt (cs.set j x) k c := by
  refine ⟨?_, by rw [List.length_set]; exact h.fit⟩
  by_cases hl : j < cs.length
  · have := wr_set_out (own := []) (x := x) (c := c) (k := k) (blk_far hj) hl
    rw [List.append_nil, List.append_nil, h.eq] at this
    exact this.symm
  · rw [List.set_eq_of_length_le (by omega)]
    exact h.eq
theorem GAt.app (h : GAt cs g ms c) (own : Cs) : GAt (cs ++ own) g ms c := ⟨h.toCAt.app own, get_app h.obj own⟩
theorem GAt.set (h : GAt cs g ms c) (x : Cell) (hj : j < g ∨ g + 1 + 2 + 3 * n ≤ j) : GAt (cs.set j x) g ms c := ⟨h.toCAt.set x (by omega), by
  rw [List.getElem?_set_ne (by have := h.fit; omega)]
  exact h.obj⟩
theorem GAt.hs {t : Nat} {own cs1 : Cs} (h : GAt cs g ms c) (hs : Hs cs k t own cs1) (hk : k < g ∨ g + 1 + 2 + 3 * n ≤ k) : GAt cs1 g ms c := by
  obtain ⟨a, s, b, rfl, _⟩ := hs
  exact (h.set _ hk).app own
end
end Mi
end
section
set_option Elab.async false
set_option linter.all false
set_option maxRecDepth 100000
set_option maxHeartbeats 4000000
namespace k91
open PySem Mi
def exl_NoNumber : List (Nat × Bool) := [(2, false), (3, false), (4, false), (5, true), (6, false)]
def exl_NotIn : List (Nat × Bool) := [(2, false), (3, false), (4, false), (5, false), (6, true)]
def exl_TurnError : List (Nat × Bool) := [(2, true), (3, true), (4, true), (5, true), (6, true)]
open tb (f_Chain___init__ b_Chain___init__ f_Chain_add b_Chain_add f_Chain_grown b_Chain_grown f_Chain_has b_Chain_has f_Chain_least b_Chain_least f_Chain_line_of b_Chain_line_of f_Chain_noted b_Chain_noted f_Chain_rest b_Chain_rest f_Chain_size b_Chain_size f_Group___init__ b_Group___init__ f_Group_base b_Group_base f_Group_ground b_Group_ground f_Group_has b_Group_has f_Group_least b_Group_least f_Group_lift b_Group_lift f_Group_nth b_Group_nth f_Group_paper b_Group_paper f_Group_place_of b_Group_place_of f_Group_recipe b_Group_recipe f_Group_ring_at b_Group_ring_at f_Group_size b_Group_size f_Group_told b_Group_told f_Step___init__ b_Step___init__ f_back b_back f_behind b_behind f_is_of b_is_of f_is_turning b_is_turning f_is_whole b_is_whole f_lines_named b_lines_named f_looked_makers b_looked_makers f_still b_still f_trimmed b_trimmed)
def b__law_hand : S :=
    (sSeq (sSet 2 (eC (.int 0)))
    (sSeq (sIf (e2 oLt (eVar 1) (e1 oLen (eVar 0))) (sSet 2 (e2 oIx (eVar 0) (eVar 1))) sNext)
    (sSeq (sSet 3 (e2 oMul (e2 oMul (e2 oMul (e2 oPow (eC (.int 10)) (eC (.int 60))) (e2 oPow (eC (.int 10)) (eC (.int 60)))) (e2 oPow (eC (.int 10)) (eC (.int 60)))) (e2 oPow (eC (.int 10)) (eC (.int 60)))))
    (sSeq (sSet 4 (e2 oMod (e2 oMul (e2 oAdd (e2 oAdd (e2 oMod (eVar 2) (eC (.int 2147483629))) (e2 oMul (eC (.int 7919)) (eVar 1))) (eC (.int 11))) (eC (.int 48271))) (eC (.int 2147483647))))
    (sRet (eLc (lDisp (aCons (e2 oMul (e2 oMod (e1 oAbs (eVar 2)) (eVar 3)) (e1 oInt (e2 oGe (e1 oAbs (eVar 2)) (e2 oPow (eC (.int 10)) (eC (.int 18)))))) (aCons (eVar 4) (aCons (eC (.int 0)) aNil))))))))))
def f__law_hand : Fn := fn 2 5 b__law_hand
def b__law_take : S :=
    (sSeq (sIf (e2 oGt (e2 oIx (eVar 0) (eC (.int 0))) (eC (.int 0))) (sSeq (sSet 2 (e2 oMod (e2 oIx (eVar 0) (eC (.int 0))) (eVar 1)))
    (sSeq (sPut putL (eVar 0) (eC (.int 0)) (e2 oDiv (e2 oIx (eVar 0) (eC (.int 0))) (eVar 1)))
    (sRet (eVar 2)))) sNext)
    (sSeq (sPut putL (eVar 0) (eC (.int 2)) (e2 oAdd (e2 oIx (eVar 0) (eC (.int 2))) (eC (.int 1))))
    (sSeq (sPut putL (eVar 0) (eC (.int 1)) (e2 oMod (e2 oAdd (e2 oAdd (e2 oMul (e2 oIx (eVar 0) (eC (.int 1))) (eC (.int 39373))) (eC (.int 12345))) (e2 oMul (eC (.int 31)) (e2 oIx (eVar 0) (eC (.int 2))))) (eC (.int 2147483647))))
    (sRet (e2 oMod (e2 oDiv (e2 oMod (e2 oMul (e2 oIx (eVar 0) (eC (.int 1))) (e2 oAdd (e2 oMod (e2 oIx (eVar 0) (eC (.int 1))) (eC (.int 40009))) (eC (.int 3)))) (eC (.int 2147483629))) (eC (.int 64))) (eVar 1))))))
def f__law_take : Fn := fn 2 3 b__law_take
def b__law_turning : S :=
    (sSeq (sSet 2 (eLc (lDisp aNil)))
    (sSeq (sFor (iRange (eVar 1)) (gN 3) (sExpr (m1 isL oInsert (eVar 2) (aCons (call (popped f__law_take) (aCons (eVar 0) (aCons (e2 oAdd (eVar 3) (eC (.int 1))) aNil))) (aCons (eVar 3) aNil)))))
    (sRet (e1 oTuple (eVar 2)))))
def f__law_turning : Fn := fn 2 4 b__law_turning
def b__law_behind : S :=
    (sRet (e1 oTuple (eL (lComp [2] (iTup (eVar 0)) (gN 2) eYes (e2 oIx (eVar 1) (eVar 2))))))
def f__law_behind : Fn := fn 2 3 b__law_behind
def b__law_back : S :=
    (sSeq (sSet 1 (eLc (lMul (eL (lDisp (aCons (eC (.int 0)) aNil))) (e1 oLen (eVar 0)))))
    (sSeq (sFor (iEnumT (eVar 0)) (gT [(gN 2), (gN 3)]) (sPut putL (eVar 1) (eVar 3) (eVar 2)))
    (sRet (e1 oTuple (eVar 1)))))
def f__law_back : Fn := fn 1 4 b__law_back
def b__law_worked : S :=
    (sSeq (sSet 3 (eLc (lDisp aNil)))
    (sSeq (sFor (iLst (eVar 0)) (gN 4) (sIf (e2 oEq (e2 oIx (eVar 4) (eC (.int 0))) (eC (.str "still"))) (sExpr (m1 isL oAppend (eVar 3) (aCons (e1 oTupRange (eVar 2)) aNil))) (sIf (e2 oEq (e2 oIx (eVar 4) (eC (.int 0))) (eC (.str "told"))) (sExpr (m1 isL oAppend (eVar 3) (aCons (e2 oIx (eVar 1) (e2 oIx (eVar 4) (eC (.int 1)))) aNil))) (sIf (e2 oEq (e2 oIx (eVar 4) (eC (.int 0))) (eC (.str "behind"))) (sExpr (m1 isL oAppend (eVar 3) (aCons (call (popped f__law_behind) (aCons (e2 oIx (eVar 3) (e2 oIx (eVar 4) (eC (.int 1)))) (aCons (e2 oIx (eVar 3) (e2 oIx (eVar 4) (eC (.int 2)))) aNil))) aNil))) (sExpr (m1 isL oAppend (eVar 3) (aCons (call (popped f__law_back) (aCons (e2 oIx (eVar 3) (e2 oIx (eVar 4) (eC (.int 1)))) aNil)) aNil)))))))
    (sRet (eVar 3))))
def f__law_worked : Fn := fn 3 5 b__law_worked
def b__law_made : S :=
    (sSeq (sSet 3 (eLc (lRange (eVar 0))))
    (sSeq (sFor (iZipL (eVar 1) (eVar 2)) (gT [(gN 4), (gN 5)]) (sPut putL (eVar 3) (eVar 4) (eVar 5)))
    (sRet (e1 oTuple (eVar 3)))))
def f__law_made : Fn := fn 3 6 b__law_made
def b__law_by_number : S :=
    (sSeq (sPar 2 3 (eLc (lList (eVar 0))) (eLc (lDisp aNil)))
    (sSeq (sSet 4 (eC (.int 1)))
    (sSeq (sFor (iRange2 (eC (.int 2)) (e2 oAdd (e1 oLen (eVar 0)) (eC (.int 1)))) (gN 5) (sSet 4 (e2 oMul (eVar 4) (eVar 5))))
    (sSeq (sWhile (e2 oNe (eVar 2) (eL (lDisp aNil))) (sSeq (sSet 4 (e2 oDiv (eVar 4) (e1 oLen (eVar 2))))
    (sSeq (sExpr (m1 isL oAppend (eVar 3) (aCons (m1 isL oPopAt (eVar 2) (aCons (e2 oDiv (eVar 1) (eVar 4)) aNil)) aNil)))
    (sSet 1 (e2 oMod (eVar 1) (eVar 4))))))
    (sRet (eVar 3))))))
def f__law_by_number : Fn := fn 2 6 b__law_by_number
def b__law_refused : S :=
    (sSeq (sSet 3 (eC (.int 0)))
    (sSeq (sTry (sIf (e2 oEqS (eVar 1) (eC (.int 0))) (sExpr (meth 7 (popped f_Group_nth) (eVar 0) (aCons (eVar 2) aNil))) (sExpr (meth 7 (popped f_Group_lift) (eVar 0) (aCons (e2 oIx (eVar 2) (eC (.int 0))) (aCons (e2 oIx (eVar 2) (eC (.int 1))) aNil)))))
    [(lk exl_NoNumber, (sSet 3 (eC (.int 1)))), (lk exl_NotIn, (sSet 3 (eC (.int 2)))), (lk exl_TurnError, (sSet 3 (eC (.int 3))))])
    (sRet (e2 oEqS (eVar 3) (e2 oAdd (eC (.int 1)) (eVar 1))))))
def f__law_refused : Fn := fn 3 4 b__law_refused
def b__law_drawn_below : S :=
    (sSeq (sSet 2 (eC (.int 0)))
    (sSeq (sFor (iRange (eC (.int 4))) (gN 3) (sSet 2 (e2 oAdd (e2 oMul (eVar 2) (eC (.int 1000))) (call (popped f__law_take) (aCons (eVar 0) (aCons (eC (.int 1000)) aNil))))))
    (sRet (e2 oMod (eVar 2) (eVar 1)))))
def f__law_drawn_below : Fn := fn 2 4 b__law_drawn_below
def b__law_numbers_right : S :=
    (sSeq (sFor (iRange (eC (.int 5))) (gN 4) (sSeq (sSet 5 (e2 oIx (eL (lDisp (aCons (eC (.int 0)) (aCons (e2 oSub (eVar 3) (eC (.int 1))) (aCons (e2 oDiv (eVar 3) (eC (.int 2))) (aCons (call (popped f__law_drawn_below) (aCons (eVar 0) (aCons (eVar 3) aNil))) (aCons (call (popped f__law_drawn_below) (aCons (eVar 0) (aCons (eVar 3) aNil))) aNil))))))) (eVar 4)))
    (sSeq (sSet 6 (call (popped f__law_made) (aCons (e1 (oFld 7 1) (eVar 1)) (aCons (eVar 2) (aCons (call (popped f__law_by_number) (aCons (eVar 2) (aCons (eVar 5) aNil))) aNil)))))
    (sIf (eOr (e2 oNe (meth 7 (popped f_Group_nth) (eVar 1) (aCons (eVar 5) aNil)) (eVar 6)) (eOr (e2 oNeS (meth 7 (popped f_Group_place_of) (eVar 1) (aCons (eVar 6) aNil)) (eVar 5)) (e2 oIsNot (meth 7 (popped f_Group_has) (eVar 1) (aCons (eVar 6) aNil)) (eC (.bl true))))) (sRet (eC (.bl false))) sNext))))
    (sRet (eAnd (call (popped f__law_refused) (aCons (eVar 1) (aCons (eC (.int 0)) (aCons (eVar 3) aNil)))) (e2 oEqS (meth 7 (popped f_Group_size) (eVar 1) aNil) (eVar 3)))))
def f__law_numbers_right : Fn := fn 4 7 b__law_numbers_right
def b__law_lift : S :=
    (sRet (call (popped f__law_made) (aCons (e1 (oFld 7 1) (eVar 0)) (aCons (eL (lCut (eVar 1) (some (eVar 2)) none)) (aCons (eL (lAdd (eL (lAdd (eL (lDisp (aCons (e2 oIx (eVar 1) (eVar 3)) aNil))) (eL (lCut (eVar 1) (some (eVar 2)) (some (eVar 3)))))) (eL (lCut (eVar 1) (some (e2 oAdd (eVar 3) (eC (.int 1)))) none)))) aNil)))))
def f__law_lift : Fn := fn 4 4 b__law_lift
def b__law_lifts_right : S :=
    (sSeq (sFor (iRange (eC (.int 3))) (gN 3) (sSeq (sSet 4 (call (popped f__law_turning) (aCons (eVar 0) (aCons (e1 (oFld 7 1) (eVar 1)) aNil))))
    (sSeq (sSet 5 (eL (lSorted (eL (lComp [6] (iLst (eVar 2)) (gN 6) eYes (e2 oIx (eVar 4) (eVar 6)))))))
    (sSeq (sSet 7 (eLc (lList (eVar 4))))
    (sSeq (sFor (iZipL (eVar 2) (eVar 5)) (gT [(gN 6), (gN 8)]) (sPut putL (eVar 7) (eVar 6) (eVar 8)))
    (sIf (e2 oNe (meth 7 (popped f_Group_least) (eVar 1) (aCons (eVar 4) aNil)) (e1 oTuple (eVar 7))) (sRet (eC (.bl false))) sNext))))))
    (sSeq (sSet 9 (eLc (lDisp aNil)))
    (sSeq (sFor (iRange (e2 oSub (e1 oLen (eVar 2)) (eC (.int 1)))) (gN 10) (sExpr (m1 isL oAppend (eVar 9) (aCons (eTup (aCons (e2 oIx (eVar 2) (eVar 10)) (aCons (eL (lComp [11] (iRange2 (eVar 10) (e1 oLen (eVar 2))) (gN 11) eYes (call (popped f__law_lift) (aCons (eVar 1) (aCons (eVar 2) (aCons (eVar 10) (aCons (eVar 11) aNil))))))) aNil))) aNil))))
    (sSeq (sIf (eOr (e2 oNe (meth 7 (popped f_Group_ground) (eVar 1) aNil) (eVar 9)) (e2 oNe (meth 7 (popped f_Group_base) (eVar 1) aNil) (eL (lCut (eVar 2) none (some (e1 oNeg (eC (.int 1)))))))) (sRet (eC (.bl false))) sNext)
    (sSeq (sSet 10 (e2 oAdd (eC (.int 1)) (call (popped f__law_take) (aCons (eVar 0) (aCons (e2 oSub (e1 oLen (eVar 2)) (eC (.int 1))) aNil)))))
    (sSeq (sSet 11 (call (popped f__law_take) (aCons (eVar 0) (aCons (eVar 10) aNil))))
    (sSeq (sIf (e1 oNot (call (popped f__law_refused) (aCons (eVar 1) (aCons (eC (.int 1)) (aCons (eTup (aCons (e2 oIx (eVar 2) (eVar 10)) (aCons (e2 oIx (eVar 2) (eVar 11)) aNil))) aNil))))) (sRet (eC (.bl false))) sNext)
    (sRet (e2 oEq (meth 7 (popped f_Group_lift) (eVar 1) (aCons (e2 oIx (eVar 2) (eVar 11)) (aCons (e2 oIx (eVar 2) (eVar 10)) aNil))) (call (popped f__law_lift) (aCons (eVar 1) (aCons (eVar 2) (aCons (eVar 11) (aCons (eVar 10) aNil))))))))))))))
def f__law_lifts_right : Fn := fn 3 12 b__law_lifts_right
def b__law_paper_right : S :=
    (sSeq (sAsg (gT [(gN 3), (gN 4)]) (meth 7 (popped f_Group_paper) (eVar 0) aNil))
    (sSeq (sSet 5 (call (popped f__law_worked) (aCons (eVar 3) (aCons (eVar 2) (aCons (e1 (oFld 7 1) (eVar 0)) aNil)))))
    (sSeq (sIf (e2 oNe (eL (lComp [6, 7] (iLst (eVar 4)) (gT [(gN 6), (gN 7)]) eYes (eVar 6))) (eL (lCut (eVar 1) none (some (e1 oNeg (eC (.int 1))))))) (sRet (eC (.bl false))) sNext)
    (sSeq (sFor (iEnum (eVar 4)) (gT [(gN 8), (gT [(gN 6), (gN 7)])]) (sSeq (sIf (e2 oNe (eL (lComp [9, 10] (iLst (eVar 7)) (gT [(gN 9), (gN 10)]) eYes (eVar 9))) (eL (lCut (eVar 1) (some (eVar 8)) none))) (sRet (eC (.bl false))) sNext)
    (sSeq (sFor (iLst (eVar 7)) (gT [(gN 9), (gN 10)]) (sIf (eOr (e2 oNeS (e2 oIx (e2 oIx (eVar 5) (eVar 10)) (eVar 6)) (eVar 9)) (e2 oNe (eCutT (e2 oIx (eVar 5) (eVar 10)) none (some (eVar 6))) (e1 oTupRange (eVar 6)))) (sRet (eC (.bl false))) sNext))
    (sIf (e2 oNe (e2 oIx (eVar 5) (e2 oIx (e2 oIx (eVar 7) (eC (.int 0))) (eC (.int 1)))) (e1 oTupRange (e1 (oFld 7 1) (eVar 0)))) (sRet (eC (.bl false))) sNext))))
    (sRet (eC (.bl true)))))))
def f__law_paper_right : Fn := fn 3 11 b__law_paper_right
def b__law_recipe_right : S :=
    (sSeq (sSet 5 (call (popped f__law_made) (aCons (e1 (oFld 7 1) (eVar 1)) (aCons (eVar 2) (aCons (call (popped f__law_by_number) (aCons (eVar 2) (aCons (call (popped f__law_drawn_below) (aCons (eVar 0) (aCons (eVar 4) aNil))) aNil))) aNil)))))
    (sSeq (sSet 6 (meth 7 (popped f_Group_recipe) (eVar 1) (aCons (eVar 5) aNil)))
    (sSeq (sSet 7 (eDc []))
    (sSeq (sFor (iLst (eVar 6)) (gN 8) (sIf (e2 oInF (e2 oIx (eVar 8) (eC (.int 0))) (eTup (aCons (eC (.str "behind")) (aCons (eC (.str "back")) aNil)))) (sFor (iTup (eCutT (eVar 8) (some (eC (.int 1))) none)) (gN 9) (sPut putD (eVar 7) (eVar 9) (eC (.bl true)))) sNext))
    (sRet (eAnd (e2 oEq (e2 oIx (call (popped f__law_worked) (aCons (eVar 6) (aCons (eVar 3) (aCons (e1 (oFld 7 1) (eVar 1)) aNil)))) (e1 oNeg (eC (.int 1)))) (eVar 5)) (e2 oEq (eL (lSorted (eL (lKeys (eVar 7))))) (eL (lRange (e2 oSub (e1 oLen (eVar 6)) (eC (.int 1))))))))))))
def f__law_recipe_right : Fn := fn 5 10 b__law_recipe_right
def b_law : S :=
    (sSeq (sFor (iRange (e2 oMax2 (eC (.int 1)) (e2 oMin2 (eC (.int 2)) (e1 oLen (eVar 0))))) (gN 1) (sSeq (sSet 2 (call f__law_hand (aCons (eVar 0) (aCons (eVar 1) aNil))))
    (sSeq (sSet 3 (e2 oAdd (eC (.int 8)) (call (popped f__law_take) (aCons (eVar 2) (aCons (eC (.int 5)) aNil)))))
    (sSeq (sSet 4 (e2 oAdd (eVar 3) (call (popped f__law_take) (aCons (eVar 2) (aCons (eC (.int 9)) aNil)))))
    (sSeq (sSet 5 (eL (lCut (eL (lList (call (popped f__law_turning) (aCons (eVar 2) (aCons (eVar 4) aNil))))) none (some (eVar 3)))))
    (sSeq (sPar 6 7 (eL (lSorted (eVar 5))) (eC (.int 1)))
    (sSeq (sFor (iRange2 (eC (.int 2)) (e2 oAdd (eVar 3) (eC (.int 1)))) (gN 8) (sSet 7 (e2 oMul (eVar 7) (eVar 8))))
    (sSeq (sSet 9 (eL (lDisp (aCons (call (popped f__law_made) (aCons (eVar 4) (aCons (eVar 5) (aCons (eL (lAdd (eL (lCut (eVar 5) (some (eC (.int 1))) none)) (eL (lCut (eVar 5) none (some (eC (.int 1))))))) aNil)))) (aCons (call (popped f__law_made) (aCons (eVar 4) (aCons (eL (lCut (eVar 5) none (some (eC (.int 2))))) (aCons (eL (lBackF (eVar 5) (eC (.int 1)))) aNil)))) aNil)))))
    (sSeq (sSet 10 (call (make' 7 f_Group___init__) (aCons (eVar 4) (aCons (eL (lList (eVar 9))) aNil))))
    (sSeq (sIf (eOr (e1 oNot (call (popped f__law_numbers_right) (aCons (eVar 2) (aCons (eVar 10) (aCons (eVar 6) (aCons (eVar 7) aNil)))))) (e1 oNot (call (popped f__law_lifts_right) (aCons (eVar 2) (aCons (eVar 10) (aCons (eVar 6) aNil)))))) (sRet (eC (.bl false))) sNext)
    (sSeq (sIf (e1 oNot (call (popped f__law_paper_right) (aCons (eVar 10) (aCons (eVar 6) (aCons (eVar 9) aNil))))) (sRet (eC (.bl false))) sNext)
    (sIf (e1 oNot (call (popped f__law_recipe_right) (aCons (eVar 2) (aCons (eVar 10) (aCons (eVar 6) (aCons (eVar 9) (aCons (eVar 7) aNil))))))) (sRet (eC (.bl false))) sNext))))))))))))
    (sRet (eC (.bl true))))
def f_law : Fn := fn 1 11 b_law
end k91
end
section
set_option linter.all false
set_option maxHeartbeats 4000000
namespace Mi
open PySem
def h_hand : S :=
    (sSeq (sSet 2 (eC (.int 0)))
    (sSeq (sIf (e2 oLt (eVar 1) (e1 oLen (eVar 0))) (sSet 2 (e2 oIx (eVar 0) (eVar 1))) sNext)
    (sSeq (sSet 3 (e2 oMul (e2 oMul (e2 oMul (e2 oPow (eC (.int 10)) (eC (.int 60))) (e2 oPow (eC (.int 10)) (eC (.int 60)))) (e2 oPow (eC (.int 10)) (eC (.int 60)))) (e2 oPow (eC (.int 10)) (eC (.int 60)))))
    (sSeq (sSet 4 (e2 oMod (e2 oMul (e2 oAdd (e2 oAdd (e2 oMod (eVar 2) (eC (.int 2147483629))) (e2 oMul (eC (.int 7919)) (eVar 1))) (eC (.int 11))) (eC (.int 48271))) (eC (.int 2147483647))))
    (sRet (eLc (lDisp (aCons (e2 oMul (e2 oMod (e1 oAbs (eVar 2)) (eVar 3)) (e1 oInt (e2 oGe (e1 oAbs (eVar 2)) (e2 oPow (eC (.int 10)) (eC (.int 18)))))) (aCons (eVar 4) (aCons (eC (.int 0)) aNil))))))))))
theorem Hs.init {cs : Cs} {a s c : Int} (h1 : 0 ≤ a) (h2 : 0 ≤ s) (h3 : s < 2147483647) (h4 : c = 0) : Hs (cs ++ [hnd a s c]) cs.length 0 [] (cs ++ [hnd a s c]) := by
  refine ⟨a, s, c, ?_, by simp, h1, h2, h3, by omega, by omega⟩
  rw [List.append_nil, List.set_append_right _ _ (Nat.le_refl _), Nat.sub_self]
  rfl
def p60 : Int := 10 ^ 60
def p18 : Int := 10 ^ 18
def far : Int := p60 * p60 * p60 * p60
theorem pow60 {cs : Cs} : oPow cs (.int 10) (.int 60) = some (.int p60) := rfl
theorem pow18 {cs : Cs} : oPow cs (.int 10) (.int 18) = some (.int p18) := rfl
theorem mul1 {cs : Cs} : oMul cs (.int p60) (.int p60) = some (.int (p60 * p60)) := by
  rw [oMul_i, if_pos (by decide +kernel)]
theorem mul2 {cs : Cs} : oMul cs (.int (p60 * p60)) (.int p60) = some (.int (p60 * p60 * p60)) := by
  rw [oMul_i, if_pos (by decide +kernel)]
theorem mul3 {cs : Cs} : oMul cs (.int (p60 * p60 * p60)) (.int p60) = some (.int far) := by
  rw [oMul_i, if_pos (by decide +kernel), far]
theorem far_pos : 0 < far := by decide +kernel
theorem far_lt : far < 2 ^ 900 := by decide +kernel
theorem log_far {i : Int} (h0 : 0 ≤ i) (h : i < far) : i.natAbs.log2 < 900 := by
  have h2 : i.natAbs < 2 ^ 900 := by
    have := Int.lt_trans h far_lt
    have e : ((2 : Int) ^ 900) = ((2 ^ 900 : Nat) : Int) := by decide +kernel
    rw [e] at this
    omega
  by_cases hi : i.natAbs = 0
  · rw [hi]
    decide
  · exact (Nat.log2_lt hi).mpr h2
theorem hand_ok {cs : Cs} {ns : List Int} {k : Nat} (hk : k < 1000) :
    got (fn 2 5 h_hand [.fro (ns.map .int), di k] cs) fun r => ∃ a s : Int, r = .v (.cell cs.length) (cs ++ [hnd a s 0]) ∧ 0 ≤ a ∧ 0 ≤ s ∧ s < 2147483647 := by
  refine got_fn rfl ?_
  have core : ∀ c : Int, got (sSeq (sSet 3 (e2 oMul (e2 oMul (e2 oMul (e2 oPow (eC (.int 10)) (eC (.int 60))) (e2 oPow (eC (.int 10)) (eC (.int 60)))) (e2 oPow (eC (.int 10)) (eC (.int 60)))) (e2 oPow (eC (.int 10)) (eC (.int 60)))))
    (sSeq (sSet 4 (e2 oMod (e2 oMul (e2 oAdd (e2 oAdd (e2 oMod (eVar 2) (eC (.int 2147483629))) (e2 oMul (eC (.int 7919)) (eVar 1))) (eC (.int 11))) (eC (.int 48271))) (eC (.int 2147483647))))
    (sRet (eLc (lDisp (aCons (e2 oMul (e2 oMod (e1 oAbs (eVar 2)) (eVar 3)) (e1 oInt (e2 oGe (e1 oAbs (eVar 2)) (e2 oPow (eC (.int 10)) (eC (.int 18)))))) (aCons (eVar 4) (aCons (eC (.int 0)) aNil))))))) [some (.fro (ns.map .int)), some (di k), some (.int c), none, none] cs)
      (fnK fun r => ∃ a s : Int, r = .v (.cell cs.length) (cs ++ [hnd a s 0]) ∧ 0 ≤ a ∧ 0 ≤ s ∧ s < 2147483647) := by
    intro c
    generalize ea : (if c < 0 then -c else c) = ac
    have a1 : 0 ≤ ac % far := Int.emod_nonneg _ (by have := far_pos; omega)
    have a2 : ac % far < far := Int.emod_lt_of_pos _ far_pos
    have la := log_far a1 a2
    have c0 : 0 ≤ c % 2147483629 := Int.emod_nonneg _ (by omega)
    have c1 : c % 2147483629 < 2147483629 := Int.emod_lt_of_pos _ (by omega)
    have l1 : (7919 : Int).natAbs.log2 + (k : Int).natAbs.log2 < 1000000 := by
      have h1 : (7919 : Int).natAbs.log2 < 128 := log_lt_i (by omega) (by omega)
      have h2 : (k : Int).natAbs.log2 < 128 := log_lt_i (by omega) (by omega)
      omega
    have l2 : (c % 2147483629 + 7919 * (k : Int) + 11).natAbs.log2 + (48271 : Int).natAbs.log2 < 1000000 := by
      have h1 : (48271 : Int).natAbs.log2 < 128 := log_lt_i (by omega) (by omega)
      have h2 : (c % 2147483629 + 7919 * (k : Int) + 11).natAbs.log2 < 128 := log_lt_i (by omega) (by omega)
      omega
    have e1 : oMul cs (.int 7919) (.int k) = some (.int (7919 * (k : Int))) := by rw [oMul_i, if_pos l1]
    have e2 : oMul cs (.int (c % 2147483629 + 7919 * (k : Int) + 11)) (.int 48271) = some (.int ((c % 2147483629 + 7919 * (k : Int) + 11) * 48271)) := by rw [oMul_i, if_pos l2]
    have e3 : ∀ b : Bool, oMul cs (.int (ac % far)) (.int (if b = true then 1 else 0)) = some (.int (ac % far * (if b = true then 1 else 0))) := fun b => by
      rw [oMul_i, if_pos]
      cases b
      · show (ac % far).natAbs.log2 + Nat.log2 0 < 1000000
        have : Nat.log2 0 = 0 := by decide
        omega
      · show (ac % far).natAbs.log2 + Nat.log2 1 < 1000000
        have : Nat.log2 1 = 0 := by decide
        omega
    have fp := far_pos
    simp only [got_sSeq, got_sSet, got_e2, got_e1, got_eC, got_eVar, kont_v, got_bnd, got_out, got_some, pow60, pow18, mul1, mul2, mul3, kontS_v, seqK_nx, List.set_cons_succ, List.set_cons_zero, List.getElem?_cons_succ, List.getElem?_cons_zero, Option.bind_some, id_eq,
      oMod_i, oAdd_i, oAbs_i, oGe_i, oInt_b, e1, e2, ea, e3, fp, if_true, got_sRet, got_eLc, got_lDisp, got_aCons, got_aNil]
    have m1 : (0 : Int) < 2147483629 := by omega
    have m2 : (0 : Int) < 2147483647 := by omega
    simp only [m1, m2, if_true, got_some, oAdd_i, e2, oMod_i, List.length_cons, List.length_nil, SIZE_eq, Nat.reduceAdd, Nat.reduceLeDiff, kont_v, kontS_v, fnK_rt]
    refine ⟨_, _, rfl, ?_, Int.emod_nonneg _ (by omega), Int.emod_lt_of_pos _ m2⟩
    split
    · rw [Int.mul_one]
      exact a1
    · rw [Int.mul_zero]
      exact Int.le_refl _
  by_cases hkn : k < ns.length
  · have hi : atI (ns.map D.int) (k : Int) = some (.int ns[k]) := atI_nat (by rw [List.getElem?_map, List.getElem?_eq_getElem hkn]; rfl)
    have := core ns[k]
    simp [h_hand, hkn, hi]
    simp at this
    exact this
  · have := core 0
    simp [h_hand, hkn]
    simp at this
    exact this
end Mi
end
section
set_option linter.all false
set_option maxHeartbeats 2000000
namespace Mi
open PySem
section
variable {env : Env} {cs : Cs} {QI : R It → Prop}
def r2of : D → D → Cs → Option (R It)
  | .int l, .int h, cs => if okR l && okR h then some (.v ⟨rng l h, fun _ => true⟩ cs) else none
  | _, _, _ => none
@[simp] theorem r2of_i {l h : Int} : r2of (.int l) (.int h) cs = if okR l && okR h then some (.v ⟨rng l h, fun _ => true⟩ cs) else none := rfl
@[simp] theorem got_iRange2 {a b} : got (iRange2 a b env cs) QI = got (a env cs) (kont (fun x cs => bnd (b env cs) fun y cs => r2of x y cs) QI) := by
  simp only [iRange2, got_bnd]
  congr 2
  funext x cs
  congr 1
  funext y cs
  cases x <;> cases y <;> rfl
end
theorem rng_get {l : Int} {m i : Nat} {x : D} (h : (rng l (l + m))[i]? = some x) : i < m ∧ x = .int (l + i) := by
  unfold rng at h
  rw [show l + (m : Int) - l = m by omega, Int.toNat_natCast, List.getElem?_map] at h
  by_cases hi : i < m
  · rw [List.getElem?_range hi] at h
    exact ⟨hi, (Option.some.inj h).symm⟩
  · rw [List.getElem?_eq_none (by rw [List.length_range]; omega)] at h
    cases h
theorem rng_len2 (l : Int) (m : Nat) : (rng l (l + m)).length = m := by
  unfold rng
  rw [show l + (m : Int) - l = m by omega, Int.toNat_natCast, List.length_map, List.length_range]
end Mi
namespace k91
open PySem Mi
theorem take_eq : f__law_take = fn 2 3 h_take := rfl
theorem turning_eq : f__law_turning = fn 2 4 h_turning := rfl
section
variable {n : Nat} {cs : Cs} {Q : R D → Prop}
theorem zip_get {w v : List Nat} {i : Nat} {x : D} (h : (((dis w).zip (dis v)).map fun p => D.tup [p.1, p.2])[i]? = some x) : ∃ a b, w[i]? = some a ∧ v[i]? = some b ∧ x = .tup [di a, di b] := by
  rw [List.getElem?_map] at h
  obtain ⟨⟨y, z⟩, hyz, rfl⟩ := Option.map_eq_some_iff.mp h
  obtain ⟨h1, h2⟩ := List.getElem?_zip_eq_some.mp hyz
  rw [List.getElem?_map] at h1 h2
  obtain ⟨a, ha, rfl⟩ := Option.map_eq_some_iff.mp h1
  obtain ⟨b, hb, rfl⟩ := Option.map_eq_some_iff.mp h2
  exact ⟨a, b, ha, hb, rfl⟩
theorem made_ok {w v : List Nat} (p : Pm n) (hn : n ≤ 60) (hl : v.length = w.length) (hp : ∀ (i a b : Nat), w[i]? = some a → v[i]? = some b → p a = b) (ho : ∀ x, x ∉ w → p x = x) (hw : ∀ x ∈ w, x < n) (h : Q (.v (pD p) cs)) : got (popped f__law_made [di n, dl w, dl v] cs) Q := by
  refine got_popped (got_fn rfl ?_)
  simp [b__law_made]
  refine ⟨by omega, got_for (fun i env cs' => ∃ (l : List Nat) (y4 y5 : Option D), env = [some (di n), some (dl w), some (dl v), some (.cell cs.length), y4, y5] ∧ cs' = cs ++ [.lst (dis l)] ∧ l.length = n ∧ ∀ x, x < n → l[x]? = some (if x ∈ w.take i then p x else x))
    ⟨List.range n, none, none, rfl, by rw [rng_nat], by simp, fun x hx => by simp [hx]⟩ (fun _ _ _ _ _ => rfl) (fun i x env cs' hx hI => ?_) fun env cs' hI => ?_⟩
  · obtain ⟨l, y4, y5, rfl, rfl, hll, hx2⟩ := hI
    obtain ⟨a, b, ha, hb, rfl⟩ := zip_get hx
    have han := hw a (List.mem_of_getElem? ha)
    simp [head_at, ixN_nat (show a < l.length by omega)]
    refine ⟨l.set a b, by simp, by simp [hll], fun x hx => ?_⟩
    rw [List.take_add_one, ha]
    by_cases e : a = x
    · subst e
      rw [List.getElem?_set_self (by omega), if_pos (by simp), hp i a b ha hb]
    · rw [List.getElem?_set_ne e, hx2 x hx]
      have : x ≠ a := fun h => e h.symm
      simp [this]
  · obtain ⟨l, y4, y5, rfl, rfl, hll, hx2⟩ := hI
    simp [head_at]
    refine ⟨_, _, ⟨rfl, rfl⟩, _, frozen_pure (pures_dis _), ?_⟩
    have : l = p.l := List.ext_getElem? fun x => by
      by_cases hx : x < n
      · rw [hx2 x hx, p.get hx]
        split
        · rfl
        · rename_i hn
          rw [ho x fun hw2 => hn ?_]
          rw [List.take_of_length_le]
          · exact hw2
          · simp [hl]
      · rw [List.getElem?_eq_none (by omega), List.getElem?_eq_none (by rw [p.len]; omega)]
    rw [this]
    exact h
theorem fac_small {m : Nat} (h : m ≤ 60) : fac m ≤ 60 ^ m := by
  induction m with
  | zero => exact Nat.le_refl _
  | succ m ih =>
    have := ih (by omega)
    simp only [fac]
    rw [Nat.pow_succ, Nat.mul_comm]
    exact Nat.mul_le_mul this h
theorem by_number_ok {w : List Nat} {num : Nat} (hw : w.length ≤ 60) (hn : num < fac w.length) (h : Q (.v (dl (byN w.length w num)) cs)) : got (popped f__law_by_number [dl w, di num] cs) Q := by
  refine got_popped (got_fn rfl ?_)
  simp [b__law_by_number]
  have e1 : rng 2 ((w.length : Int) + 1) = rng 2 (2 + ((w.length - 1 : Nat) : Int)) := by
    by_cases h0 : w.length = 0
    · rw [h0]
      rfl
    · rw [show ((w.length : Int) + 1) = 2 + ((w.length - 1 : Nat) : Int) by omega]
  refine ⟨by unfold okR; simp; omega, ?_⟩
  rw [e1]
  refine got_for (fun i env cs' => ∃ (y5 : Option D), env = [some (dl w), some (di num), some (.cell cs.length), some (.cell (cs.length + 1)), some (di (fac (i + 1))), y5] ∧ cs' = cs ++ [.lst (dis w), .lst []])
    ⟨none, rfl, rfl⟩ (fun _ _ _ _ _ => rfl) (fun i x env cs' hx hI => ?_) fun env cs' hI => ?_
  · obtain ⟨y5, rfl, rfl⟩ := hI
    obtain ⟨hi, rfl⟩ := rng_get hx
    have l1 := pow_log (fac_small (m := i + 1) (by omega)) (by omega)
    have l2 : ((2 : Int) + i).natAbs.log2 < 128 := log_lt_i (by omega) (by omega)
    simp
    refine ⟨by omega, ?_⟩
    show _ = (((i + 1 + 1) * fac (i + 1) : Nat) : Int)
    rw [Int.natCast_mul, Int.mul_comm]
    congr 1
    omega
  · obtain ⟨y5, rfl, rfl⟩ := hI
    rw [rng_len2]
    have e2 : fac (w.length - 1 + 1) = fac w.length := by
      by_cases h0 : w.length = 0
      · rw [h0]
        rfl
      · rw [show w.length - 1 + 1 = w.length by omega]
    rw [e2]
    simp
    refine got_while (fun m env cs' => ∃ (left acc : List Nat) (num' : Nat) (y5 : Option D), env = [some (dl w), some (di num'), some (.cell cs.length), some (.cell (cs.length + 1)), some (di (fac m)), y5] ∧ cs' = cs ++ [.lst (dis left), .lst (dis acc)] ∧ left.length = m ∧ num' < fac m ∧ acc.length + m = w.length ∧ acc ++ byN m left num' = byN w.length w num) w.length ?_
      ⟨w, [], num, y5, rfl, rfl, rfl, hn, by simp, by simp⟩ ?_
    · unfold FUEL
      omega
    · rintro m env cs' ⟨left, acc, num', y5, rfl, rfl, hm, hnum, hac, hby⟩
      have en : oNe (cs ++ [.lst (dis left), .lst (dis acc)]) (.cell cs.length) (.lst []) = some (.bl (!decide (left = []))) := by
        unfold oNe
        rw [frozen_cell (Nat.zero_le _) own2a (pures_dis left), frozen_pure (d := .lst []) rfl]
        simp only [Option.bind_some, fit_dl]
        have e : (D.lst (dis left) = D.lst []) = (left = []) := by simp
        simp [D.fit, D.plain, D.plains, D.depth, D.depths, e]
      by_cases h0 : left = []
      · subst h0
        simp at hm
        subst hm
        simp only [byN, List.append_nil] at hby
        simp at en
        simp [en]
        refine ⟨_, _, ⟨rfl, rfl⟩, _, frozen_cell (by omega) own2b (pures_dis acc), ?_⟩
        rw [hby]
        exact h
      · obtain ⟨m, rfl⟩ : ∃ k, m = k + 1 := ⟨m - 1, by have := List.length_pos_iff.mpr h0; omega⟩
        have fp := fac_pos m
        have hq : num' / fac m < left.length := by
          rw [hm]
          exact (Nat.div_lt_iff_lt_mul fp).mpr hnum
        obtain ⟨v, hv⟩ : ∃ v, left[num' / fac m]? = some v := ⟨_, List.getElem?_eq_getElem hq⟩
        have dv : ((fac (m + 1) : Nat) : Int) / (left.length : Int) = (fac m : Int) := by
          rw [hm, ← Int.natCast_ediv]
          show (((m + 1) * fac m / (m + 1) : Nat) : Int) = _
          rw [Nat.mul_div_cancel_left _ (Nat.succ_pos m)]
        have dq : (num' : Int) / (fac m : Int) = ((num' / fac m : Nat) : Int) := (Int.natCast_ediv _ _).symm
        have dr : (num' : Int) % (fac m : Int) = ((num' % fac m : Nat) : Int) := (Int.natCast_emod _ _).symm
        have l1 := pow_log (fac_small (m := m) (by omega)) (by omega)
        have l2 := pow_log (a := left.length) (b := 1) (by omega) (by omega)
        have g1 : (0 : Int) < left.length := by omega
        have g2 : (0 : Int) < fac m := by omega
        have g3 : Nat.log2 left.length < 9000 := by omega
        have g4 : Nat.log2 (fac m) < 9000 := by omega
        have g5 : num' / fac m < 16777216 := by omega
        have g6 : (dis left)[num' / fac m]? = some (di v) := by rw [List.getElem?_map, hv]; rfl
        have e7 : (dis left).eraseIdx (num' / fac m) = dis (left.eraseIdx (num' / fac m)) := by
          rw [List.eraseIdx_eq_take_drop_succ, List.eraseIdx_eq_take_drop_succ, dis, dis, List.map_append, List.map_take, List.map_drop]
        have g8 : (num' : Int) / (fac m : Int) < 16777216 := by rw [dq]; exact Int.ofNat_lt.mpr g5
        have g9 : 0 ≤ (num' : Int) / (fac m : Int) := by rw [dq]; exact Int.natCast_nonneg _
        have g10 : ((num' : Int) / (fac m : Int)).toNat = num' / fac m := by rw [dq, Int.toNat_natCast]
        have g11 : acc.length < 16777216 := by omega
        simp [en, h0, own2a, own2b, set2a, set2b, g1, g3, dv, g2, g4, g8, g9, g10, g6, g11]
        refine ⟨by omega, fp, ?_⟩
        rw [hv]
        simp
        refine ⟨fp, m, by omega, left.eraseIdx (num' / fac m), acc ++ [v], num' % fac m, ⟨dr, rfl⟩, ⟨e7, by simp⟩, by rw [List.length_eraseIdx_of_lt hq]; omega, Nat.mod_lt _ fp, by rw [List.length_append, List.length_singleton]; omega, ?_⟩
        rw [← hby]
        simp only [byN, List.append_assoc, List.cons_append, List.nil_append]
        rw [List.getD_eq_getElem?_getD, hv]
        rfl
theorem drawn_below_ok {cs0 own : Cs} {k t whole : Nat} (h : Hs cs0 k t own cs) (hw : 0 < whole) (ht : t < 2 ^ 62) (q : ∀ (d : Nat) (cs2 : Cs), d < whole → Hs cs0 k (t + 4) own cs2 → Q (.v (di d) cs2)) : got (popped f__law_drawn_below [.cell k, di whole] cs) Q := by
  refine got_poppedH (k := k) (t := t + 4) (got_fn rfl ?_)
  have R := h.refl
  simp [b__law_drawn_below]
  refine ⟨by decide, ?_⟩
  refine got_for (fun i env cs' => ∃ (f : Nat) (y3 : Option D), env = [some (.cell k), some (di whole), some (di f), y3] ∧ Hs cs k (t + i) [] cs' ∧ f < 1000 ^ i)
    ⟨0, none, rfl, R, by simp⟩ (fun _ _ _ _ _ => rfl) (fun i x env cs' hx hI => ?_) fun env cs' hI => ?_
  · obtain ⟨f, y3, rfl, hs, hf⟩ := hI
    obtain ⟨hi, rfl⟩ := rng_at (n := 4) hx
    have f4 : f < 1000 ^ 4 := Nat.lt_of_lt_of_le hf (Nat.pow_le_pow_right (by decide) (by omega))
    have l1 : f.log2 < 128 := log_lt (by have : (1000 : Nat) ^ 4 < 2 ^ 128 := by decide
                                         omega)
    have l2 : Nat.log2 1000 < 128 := by decide
    simp
    refine ⟨by omega, ?_⟩
    rw [take_eq]
    refine (take_ok hs (m := 1000) (by omega) (by omega) (by omega)).mono fun r hr => ?_
    obtain ⟨d, cs2, rfl, hd, hs2⟩ := hr
    simp
    refine ⟨f * 1000 + d, by simp, hs2, ?_⟩
    rw [Nat.pow_succ]
    omega
  · obtain ⟨f, y3, rfl, hs, hf⟩ := hI
    rw [show (rng 0 4).length = 4 from rng_len 4] at hs
    have : (0 : Int) < whole := by omega
    simp [this]
    refine ⟨by omega, _, _, _, ⟨rfl, rfl⟩, hs, _, frozen_pure rfl, fun cs3 h3 => ?_⟩
    have := q (f % whole) cs3 (Nat.mod_lt _ hw) (h.trans h3)
    rw [show (di (f % whole)) = .int ((f : Int) % (whole : Int)) from by rw [di, Int.natCast_emod]] at this
    exact this
end
end k91
end
section
set_option linter.all false
set_option maxHeartbeats 2000000
namespace k91
open PySem Mi
section
variable {n : Nat} {cs : Cs} {g : Nat} {ms : List (Pm n)} {c : Chn n} {w : List Nat} {Q : R D → Prop}
theorem refused_0 (h : GAt cs g ms c) (hn : n ≤ 60) (ok : c.Ok) (q : Q (.v (.bl true) cs)) : got (popped f__law_refused [.cell g, di 0, di (c.sz n 0)] cs) Q := by
  refine got_popped (got_fn rfl ?_)
  simp [b__law_refused, h.obj, grpC]
  refine group_nth h hn ok _ (fun k e hk => ?_) fun _ => ?_
  · exact absurd e (by omega)
  · simp [tryK, pick, lk, exl_NoNumber]
    exact ⟨_, [], ⟨rfl, by simp⟩, _, frozen_pure rfl, q⟩
theorem refused_1 (h : GAt cs g ms c) (hn : n ≤ 60) (ok : c.Ok) {l x : Nat} (hl : l < n) (hx : ¬ ∃ f ∈ (c.st l).lifts, f.key = x) (q : Q (.v (.bl true) cs)) : got (popped f__law_refused [.cell g, di 1, .tup [di l, di x]] cs) Q := by
  refine got_popped (got_fn rfl ?_)
  simp [b__law_refused, h.obj, grpC]
  refine group_lift h hn ok hl x (fun e => absurd e hx) fun _ => ?_
  simp [tryK, pick, lk, exl_NoNumber, exl_NotIn]
  exact ⟨_, [], ⟨rfl, by simp⟩, _, frozen_pure rfl, q⟩
theorem due_of (H : AllOf c w) {num : Nat} (hnum : num < fac w.length) : ∃ p : Pm n, (∀ (i a b : Nat), w[i]? = some a → (byN w.length w num)[i]? = some b → p a = b) ∧ (∀ x, x ∉ w → p x = x) ∧ (byN w.length w num).length = w.length ∧ c.In n 0 p ∧ c.pl n 0 p = num := by
  have pm := byN_perm rfl hnum
  obtain ⟨p, h1, h2⟩ := ex_made (H.rise.imp fun h => Nat.ne_of_lt h) H.lt pm
  refine ⟨p, h1, h2, pm.length_eq, (H.in_ p).mpr h2, ?_⟩
  have e0 : w.filter (fun x => decide (0 ≤ x)) = w := List.filter_eq_self.mpr (by simp)
  refine H.pl (m := w.length) (left := w) rfl ?_ rfl hnum H.rise
  rw [e0]
  refine List.ext_getElem? fun i => ?_
  rw [List.getElem?_map]
  cases hw : w[i]? with
  | none =>
    rw [List.getElem?_eq_none (by rw [pm.length_eq]; exact List.getElem?_eq_none_iff.mp hw)]
    rfl
  | some a =>
    have hil := (List.getElem?_eq_some_iff.mp hw).1
    have hb := List.getElem?_eq_getElem (l := byN w.length w num) (show i < _ by rw [pm.length_eq]; exact hil)
    rw [hb, Option.map_some, h1 i a _ hw hb]
theorem numbers_ok {cs0 own : Cs} {k t : Nat} (hs : Hs cs0 k t own cs) (h : GAt cs g ms c) (hk : k < g) (h1 : 1 ≤ n) (hn : n ≤ 60) (H : AllOf c w) (hw : w.length ≤ 60) (hw0 : 1 ≤ w.length) (ht : t < 2 ^ 60)
    (q : ∀ cs2 : Cs, Hs cs0 k (t + 40) own cs2 → Q (.v (.bl true) cs2)) : got (popped f__law_numbers_right [.cell k, .cell g, dl w, di (fac w.length)] cs) Q := by
  refine got_poppedH (k := k) (t := t + 40) (got_fn rfl ?_)
  have R := hs.refl
  have fp := fac_pos w.length
  have wsz : c.sz n 0 = fac w.length := by rw [H.sz rfl, cw_zero]
  simp [b__law_numbers_right]
  refine ⟨by decide, ?_⟩
  refine got_for (fun i env cs' => ∃ (y4 y5 y6 : Option D), env = [some (.cell k), some (.cell g), some (dl w), some (di (fac w.length)), y4, y5, y6] ∧ Hs cs k (t + 8 * i) [] cs')
    ⟨none, none, none, rfl, R⟩ (fun _ _ _ _ _ => rfl) (fun i x env cs' hx hI => ?_) fun env cs' hI => ?_
  · obtain ⟨y4, y5, y6, rfl, hs1⟩ := hI
    obtain ⟨hi, rfl⟩ := rng_at (n := 5) hx
    simp
    refine ⟨by decide, drawn_below_ok hs1 fp (by omega) fun d1 cs2 hd1 hs2 => ?_⟩
    simp
    refine drawn_below_ok hs2 fp (by omega) fun d2 cs3 hd2 hs3 => ?_
    obtain ⟨num, hnum, hat⟩ : ∃ num : Nat, num < fac w.length ∧ atI [D.int 0, .int ((fac w.length : Int) - 1), .int ((fac w.length : Int) / 2), di d1, di d2] (i : Int) = some (di num) := by
      have e1 : (fac w.length : Int) - 1 = ((fac w.length - 1 : Nat) : Int) := by omega
      have e2 : (fac w.length : Int) / 2 = ((fac w.length / 2 : Nat) : Int) := by omega
      rw [e1, e2]
      have b1 : fac w.length - 1 < fac w.length := by omega
      have b2 : fac w.length / 2 < fac w.length := by omega
      generalize fac w.length - 1 = a1 at *
      generalize fac w.length / 2 = a2 at *
      have : i = 0 ∨ i = 1 ∨ i = 2 ∨ i = 3 ∨ i = 4 := by omega
      rcases this with rfl | rfl | rfl | rfl | rfl
      · exact ⟨0, fp, atI_nat (j := 0) rfl⟩
      · exact ⟨a1, b1, atI_nat (j := 1) rfl⟩
      · exact ⟨a2, b2, atI_nat (j := 2) rfl⟩
      · exact ⟨d1, hd1, atI_nat (j := 3) rfl⟩
      · exact ⟨d2, hd2, atI_nat (j := 4) rfl⟩
    have h3 := h.hs hs3 (.inl hk)
    obtain ⟨p, p1, p2, p3, p4, p5⟩ := due_of H hnum
    simp [hat, h3.obj, grpC]
    refine by_number_ok hw hnum ?_
    simp
    refine made_ok p hn p3 p1 p2 H.lt ?_
    simp [h3.obj, grpC]
    refine group_nth h3 hn H.ok _ (fun k0 e hk0 r hr => ?_) fun hc => ?_
    · have e' : num = k0 := by omega
      subst e'
      have np := Chn.nth_pl H.ok H.sg (d := n) (l := 0) (h := p) (p := 1) rfl p4
      rw [Pm.mul_one, p5] at np
      have e2 := Chn.Nth.uniq H.ok rfl hr np
      subst e2
      simp [oNe_tp, h3.obj, grpC]
      refine group_place_of h3 h1 hn H.ok H.sg r (fun _ => ?_) fun hc => absurd p4 hc
      rw [p5]
      simp [h3.obj, grpC]
      refine group_has h3 h1 hn H.ok r fun b hb => ?_
      have : b = true := hb.mpr p4
      subst this
      simp
      exact hs3.mono (by omega)
    · exact absurd ⟨by omega, by rw [wsz]; omega⟩ hc
  · obtain ⟨y4, y5, y6, rfl, hs1⟩ := hI
    rw [show (rng 0 5).length = 5 from rng_len 5] at hs1
    have h3 := h.hs hs1 (.inl hk)
    simp
    rw [← wsz]
    refine refused_0 h3 hn H.ok ?_
    simp [h3.obj, grpC]
    refine group_size h3 hn H.ok ?_
    simp
    exact ⟨_, _, _, ⟨rfl, rfl⟩, hs1, _, frozen_pure rfl, fun cs3 h4 => q cs3 (hs.trans h4)⟩
end
end k91
end
section
set_option linter.all false
set_option maxHeartbeats 2000000
namespace k91
open PySem Mi
section
variable {n : Nat} {cs : Cs} {g : Nat} {ms : List (Pm n)} {c : Chn n} {w : List Nat} {Q : R D → Prop}
theorem drop_at {w : List Nat} {i a : Nat} (h : w[i]? = some a) : w.drop i = a :: w.drop (i + 1) := by
  have hil := (List.getElem?_eq_some_iff.mp h).1
  rw [List.drop_eq_getElem_cons hil]
  rw [List.getElem?_eq_getElem hil] at h
  rw [Option.some.inj h]
theorem rise_lt {w : List Nat} (hr : w.Pairwise (· < ·)) {i j a b : Nat} (h : i < j) (ha : w[i]? = some a) (hb : w[j]? = some b) : a < b := by
  have hi := (List.getElem?_eq_some_iff.mp ha).1
  have hj := (List.getElem?_eq_some_iff.mp hb).1
  have := List.pairwise_iff_getElem.mp hr i j hi hj h
  rw [List.getElem?_eq_getElem hi] at ha
  rw [List.getElem?_eq_getElem hj] at hb
  rw [← Option.some.inj ha, ← Option.some.inj hb]
  exact this
theorem lift_vals {w : List Nat} (hr : w.Pairwise (· < ·)) {i j a b : Nat} (hij : i ≤ j) (ha : w[i]? = some a) (hb : w[j]? = some b) : ∃ v2, ([b] ++ (w.drop i).take (j - i)) ++ w.drop (j + 1) = b :: v2 ∧ (b :: v2).Perm (w.drop i) ∧ v2.Pairwise (· < ·) := by
  refine ⟨(w.drop i).take (j - i) ++ w.drop (j + 1), rfl, ?_, ?_⟩
  · have e : w.drop i = (w.drop i).take (j - i) ++ (b :: w.drop (j + 1)) := by
      rw [← drop_at hb]
      have := (List.take_append_drop (j - i) (w.drop i)).symm
      rwa [List.drop_drop, show i + (j - i) = j by omega] at this
    have h2 : (w.drop i).Perm ((w.drop i).take (j - i) ++ (b :: w.drop (j + 1))) := by
      rw [← e]
    exact (h2.trans List.perm_middle).symm
  · refine List.Pairwise.sublist ?_ (hr.sublist (List.drop_sublist i w))
    have e : w.drop i = (w.drop i).take (j - i) ++ (b :: w.drop (j + 1)) := by
      rw [← drop_at hb]
      have := (List.take_append_drop (j - i) (w.drop i)).symm
      rwa [List.drop_drop, show i + (j - i) = j by omega] at this
    have h3 : ((w.drop i).take (j - i) ++ w.drop (j + 1)).Sublist ((w.drop i).take (j - i) ++ (b :: w.drop (j + 1))) := (List.Sublist.refl _).append (List.sublist_cons_self _ _)
    rw [← e] at h3
    exact h3
theorem cut_both {α : Type} {xs : List α} {i j : Nat} (hij : i ≤ j) (hj : j ≤ xs.length) : cut xs (some (i : Int)) (some (j : Int)) = (xs.drop i).take (j - i) := by
  unfold cut sIx
  have e1 : ¬ ((i : Int) < 0) := by omega
  have e2 : ¬ ((j : Int) < 0) := by omega
  simp only [e1, e2, if_false, Int.toNat_natCast]
  rw [Nat.min_eq_left hj, Nat.min_eq_left (by omega)]
theorem lift_fn_ok (h : GAt cs g ms c) (hn : n ≤ 60) (H : AllOf c w) (hw : w.length ≤ 60) {i j a b : Nat} (hij : i ≤ j) (ha : w[i]? = some a) (hb : w[j]? = some b) (q : ∀ p, c.IsLift a b p → Q (.v (pD p) cs)) : got (popped f__law_lift [.cell g, dl w, di i, di j] cs) Q := by
  refine got_popped (got_fn rfl ?_)
  have hi := (List.getElem?_eq_some_iff.mp ha).1
  have hj := (List.getElem?_eq_some_iff.mp hb).1
  obtain ⟨v2, ev, pv, rv⟩ := lift_vals H.rise hij ha hb
  have nd : (w.drop i).Nodup := (H.rise.sublist (List.drop_sublist i w)).imp fun h => Nat.ne_of_lt h
  obtain ⟨p, p1, p2⟩ := ex_made (n := n) nd (fun x hx => H.lt x (List.mem_of_mem_drop hx)) pv
  have hd := drop_at ha
  have pa : p a = b := p1 0 a b (by rw [hd]; rfl) rfl
  have an := H.lt a (List.mem_of_getElem? ha)
  have L : c.IsLift a b p := by
    refine ⟨(Chn.in_fx H.ok (Nat.le_of_lt an)).mpr ⟨(H.in_ p).mpr fun x hx => p2 x fun h => hx (List.mem_of_mem_drop h), fun x hx => p2 x fun hm => ?_⟩, pa, fun u hu hua => ?_⟩
    · obtain ⟨k, hk⟩ := List.getElem?_of_mem hm
      rw [List.getElem?_drop] at hk
      by_cases e : k = 0
      · subst e
        rw [Nat.add_zero, ha] at hk
        cases hk
        exact Nat.lt_irrefl _ hx
      · have := rise_lt H.rise (show i < i + k by omega) ha hk
        omega
    · obtain ⟨u1, u2⟩ := (Chn.in_fx H.ok (Nat.le_of_lt an)).mp hu
      rw [H.in_] at u1
      refine rise_least (S := (· ∈ w.drop (i + 1))) (fun x hx => ?_) fun x y hx hy hxy => ?_
      · by_cases e : x = a
        · rw [e, hua, pa]
        · rw [p2 x (by rw [hd]; simp [e, hx])]
          by_cases hxw : x ∈ w
          · refine u2 x ?_
            obtain ⟨k, hk⟩ := List.getElem?_of_mem hxw
            rcases Nat.lt_trichotomy k i with h | h | h
            · exact rise_lt H.rise h hk ha
            · subst h
              rw [ha] at hk
              cases hk
              exact absurd rfl e
            · exact absurd (List.mem_of_getElem? (i := k - (i + 1)) (by rw [List.getElem?_drop, show i + 1 + (k - (i + 1)) = k by omega]; exact hk)) hx
          · exact u1 x hxw
      · obtain ⟨k, hk⟩ := List.getElem?_of_mem hx
        obtain ⟨m, hm⟩ := List.getElem?_of_mem hy
        have r1 := H.rise.sublist (List.drop_sublist (i + 1) w)
        have hkm : k < m := by
          rcases Nat.lt_trichotomy k m with h | h | h
          · exact h
          · subst h
            rw [hk] at hm
            cases hm
            omega
          · have := rise_lt r1 h hm hk
            omega
        have vl : v2.length = (w.drop (i + 1)).length := by
          have := pv.length_eq
          rw [hd, List.length_cons, List.length_cons] at this
          omega
        have hkl := (List.getElem?_eq_some_iff.mp hk).1
        have hml := (List.getElem?_eq_some_iff.mp hm).1
        have vk := List.getElem?_eq_getElem (l := v2) (show k < v2.length by omega)
        have vm := List.getElem?_eq_getElem (l := v2) (show m < v2.length by omega)
        rw [p1 (k + 1) x _ (by rw [hd]; exact hk) vk, p1 (m + 1) y _ (by rw [hd]; exact hm) vm]
        exact List.pairwise_iff_getElem.mp rv k m _ _ hkm
  have q1 : atI (dis w) (j : Int) = some (di b) := atI_dis hb
  have c1 : cut (dis w) (some (i : Int)) none = dis (w.drop i) := by rw [cut_from (by rw [List.length_map]; omega), dis, dis, List.map_drop]
  have c2 : cut (dis w) (some (i : Int)) (some (j : Int)) = dis ((w.drop i).take (j - i)) := by rw [cut_both hij (by rw [List.length_map]; omega), dis, dis, List.map_take, List.map_drop]
  have c3 : cut (dis w) (some ((j : Int) + 1)) none = dis (w.drop (j + 1)) := by
    have := cut_from (xs := dis w) (l := j + 1) (by rw [List.length_map]; omega)
    rw [show ((j + 1 : Nat) : Int) = (j : Int) + 1 by omega] at this
    rw [this, dis, dis, List.map_drop]
  simp [b__law_lift, h.obj, grpC, c1, c2, c3, q1]
  have e3 : di b :: (dis (List.take (j - i) (List.drop i w)) ++ dis (List.drop (j + 1) w)) = dis (b :: v2) := by
    rw [← ev]
    simp
  refine ⟨by omega, by omega, ?_⟩
  have gl : got (popped f__law_made [di n, dl (w.drop i), dl (b :: v2)] cs) (kontS [some (.cell g), some (dl w), some (di i), some (di j)] (fun d cs => some (.rt d cs)) (fnK fun r => ∃ d own, r = .v d (cs ++ own) ∧ ∃ x, frozen (List.length cs) (cs ++ own) d = some x ∧ Q (.v x cs))) := by
    refine made_ok p hn pv.length_eq p1 p2 (fun x hx => H.lt x (List.mem_of_mem_drop hx)) ?_
    simp
    exact ⟨_, [], ⟨rfl, by simp⟩, _, frozen_pure (pD_pure p), q p L⟩
  have e4 : di b :: (List.take (j - i) (List.drop i (List.map di w)) ++ List.drop (j + 1) (List.map di w)) = dis (b :: v2) := by
    rw [← e3, dis, dis, List.map_take, List.map_drop, List.map_drop]
  rw [e4, ← List.map_drop]
  exact gl
end
end k91
end
section
set_option linter.all false
set_option maxHeartbeats 4000000
namespace k91
open PySem Mi
section
variable {n : Nat} {cs : Cs} {g : Nat} {ms : List (Pm n)} {c : Chn n} {w : List Nat} {Q : R D → Prop}
theorem least_due (H : AllOf c w) (one : Pm n) : ∃ d : Pm n, (∀ (i a b : Nat), w[i]? = some a → (srt (w.map one))[i]? = some b → d a = b) ∧ (∀ x, x ∉ w → d x = one x) ∧ ∀ r, Chn.Lst c n 0 one r → r = d := by
  have wn : w.Nodup := H.rise.imp fun h => Nat.ne_of_lt h
  have vn : (w.map one).Nodup := by
    rw [List.Nodup, List.pairwise_map]
    exact wn.imp fun h e => h (one.inj e)
  have sp := srt_perm (w.map one)
  have pu : ((srt (w.map one)).map (Pm.ap one⁻¹)).Perm w := by
    have := sp.map (Pm.ap one⁻¹)
    rw [List.map_map] at this
    have e : List.map (Pm.ap one⁻¹ ∘ one) w = w := by
      rw [show (Pm.ap one⁻¹ ∘ one : Nat → Nat) = id from funext fun x => by simp]
      simp
    rwa [e] at this
  obtain ⟨p, p1, p2⟩ := ex_made (n := n) wn H.lt pu
  have d1 : ∀ (i a b : Nat), w[i]? = some a → (srt (w.map one))[i]? = some b → (p * one) a = b := fun i a b ha hb => by
    have := p1 i a (one⁻¹ b) ha (by rw [List.getElem?_map, hb]; rfl)
    rw [Pm.mul_ap, this, Pm.ap_inv]
  have d2 : ∀ x, x ∉ w → (p * one) x = one x := fun x hx => by rw [Pm.mul_ap, p2 x hx]
  refine ⟨p * one, d1, d2, fun r hr => ?_⟩
  obtain ⟨h, hh, rfl⟩ := hr.in_ H.ok rfl
  have hs := (H.in_ h).mp hh
  have sr := srt_rise vn
  have sl : (srt (w.map one)).length = w.length := by rw [sp.length_eq, List.length_map]
  have a := rise_least (r := h * one) (due := p * one) (S := (· ∈ w)) (fun x hx => by rw [d2 x hx, Pm.mul_ap, hs x hx]) fun x y hx hy hxy => by
    obtain ⟨i, hi⟩ := List.getElem?_of_mem hx
    obtain ⟨j, hj⟩ := List.getElem?_of_mem hy
    have hil := (List.getElem?_eq_some_iff.mp hi).1
    have hjl := (List.getElem?_eq_some_iff.mp hj).1
    have hij : i < j := by
      rcases Nat.lt_trichotomy i j with h | h | h
      · exact h
      · subst h
        rw [hi] at hj
        cases hj
        omega
      · have := rise_lt H.rise h hj hi
        omega
    rw [d1 i x _ hi (List.getElem?_eq_getElem (by omega)), d1 j y _ hj (List.getElem?_eq_getElem (by omega))]
    exact List.pairwise_iff_getElem.mp sr i j _ _ hij
  rcases a with e | a
  · exact e
  · rcases hr.least H.ok rfl p ((H.in_ p).mpr p2) with e | b
    · exact e.symm
    · exact (Pm.lt_asymm a b).elim
noncomputable def grD (c : Chn n) (l : Nat) : D := .tup [di l, .lst ((c.orb l).map fun x => pD (c.lf l x))]
theorem grD_fit (l : Nat) : (grD c l).plain = true ∧ (grD c l).depth ≤ 60 := by
  have h1 : ∀ x ∈ (c.orb l).map (fun x => pD (c.lf l x)), x.plain = true ∧ D.depth x ≤ 1 := fun x hx => by
    obtain ⟨y, _, rfl⟩ := List.mem_map.mp hx
    exact ⟨plain_dis _, by simp [pD, tp, D.depth, depth_dis]⟩
  have h2 := depths_le (k := 1) fun x hx => (h1 x hx).2
  constructor
  · simp only [grD, D.plain, D.plains, Bool.and_eq_true]
    exact ⟨trivial, plains_iff.mpr fun x hx => (h1 x hx).1, trivial⟩
  · simp only [grD, D.depth, D.depths]
    omega
theorem grD_pure (l : Nat) : (grD c l).pure = true := by
  simp only [grD, D.pure, D.pures, Bool.and_eq_true, D.pures_iff]
  refine ⟨trivial, fun x hx => ?_, trivial⟩
  obtain ⟨y, _, rfl⟩ := List.mem_map.mp hx
  exact pD_pure _
theorem lifts_ok {cs0 own : Cs} {k t : Nat} (hs : Hs cs0 k t own cs) (h : GAt cs g ms c) (hk : k < g) (h1 : 1 ≤ n) (hn : n ≤ 60) (H : AllOf c w) (hw : w.length ≤ 60) (hw0 : 2 ≤ w.length) (ht : t < 2 ^ 60)
    (q : ∀ cs2 : Cs, Hs cs0 k (t + 200) own cs2 → Q (.v (.bl true) cs2)) : got (popped f__law_lifts_right [.cell k, .cell g, dl w] cs) Q := by
  refine got_poppedH (k := k) (t := t + 200) (got_fn rfl ?_)
  have R := hs.refl
  simp [b__law_lifts_right]
  refine ⟨by decide, ?_⟩
  refine got_for (fun i env cs' => ∃ (own' : Cs) (y3 y4 y5 y6 y7 y8 : Option D), env = [some (.cell k), some (.cell g), some (dl w), y3, y4, y5, y6, y7, y8, none, none, none] ∧ Hs cs k (t + n * i) own' cs')
    ⟨[], none, none, none, none, none, none, rfl, R⟩ (fun _ _ _ _ _ => rfl) (fun i x env cs' hx hI => ?_) fun env cs' hI => ?_
  · obtain ⟨own', y3, y4, y5, y6, y7, y8, rfl, hs1⟩ := hI
    obtain ⟨hi, rfl⟩ := rng_at (n := 3) hx
    have ha := h.hs hs1 (.inl hk)
    have ni : n * i ≤ 60 * 3 := Nat.mul_le_mul hn (by omega)
    simp [ha.obj, grpC]
    rw [turning_eq]
    refine (turning_ok hs1 (n := n) (by omega) (by omega)).mono fun r hr => ?_
    obtain ⟨p, cs2, rfl, hp, hs2⟩ := hr
    let one : Pm n := ⟨p, hp⟩
    have hb := h.hs hs2 (.inl hk)
    obtain ⟨d, d1, d2, d3⟩ := least_due H one
    have sp := srt_perm (w.map one)
    have sl : (srt (w.map one)).length = w.length := by rw [sp.length_eq, List.length_map]
    simp [wipe]
    refine got_lc_map (fun d => match d with | .int x => di (one x.toNat) | d => d) rfl (by rw [List.length_map]; show _ ≤ 16777216; omega) (fun x hx => ?_) ?_
    · obtain ⟨y, hy, rfl⟩ := List.mem_map.mp hx
      have : atI (dis p) (y : Int) = some (di (one y)) := pD_at one (H.lt y hy)
      simp [eYes, this]
    · have ev : List.map (fun d => match d with | D.int x => di (one x.toNat) | d => d) (dis w) = dis (w.map one) := by
        rw [dis, dis, List.map_map, List.map_map]
        rfl
      rw [ev]
      have es := sortD_dis (l := w.map one) (by rw [List.length_map]; omega)
      generalize ex : dis (w.map one) = ex0 at es ⊢
      simp [es]
      refine got_for (fun j env cs1 => ∃ (l : List Nat) (y6 y8 : Option D), env = [some (.cell k), some (.cell g), some (dl w), some (di i), some (tp p), some (dl (srt (w.map one))), y6, some (.cell cs2.length), y8, none, none, none] ∧ cs1 = cs2 ++ [.lst (dis l)] ∧ l.length = n ∧ ∀ x, x < n → l[x]? = some (if x ∈ w.take j then d x else one x))
        ⟨p, y6, y8, rfl, rfl, one.len, fun x hx => by simpa using one.get hx⟩ (fun _ _ _ _ _ => rfl) (fun j x env cs1 hx hI => ?_) fun env cs1 hI => ?_
      · obtain ⟨l, y6, y8, rfl, rfl, hll, hx2⟩ := hI
        obtain ⟨a, b, ha, hb2, rfl⟩ := zip_get hx
        have han := H.lt a (List.mem_of_getElem? ha)
        simp [head_at, ixN_nat (show a < l.length by omega)]
        refine ⟨l.set a b, by simp, by simp [hll], fun x hx => ?_⟩
        rw [List.take_add_one, ha]
        by_cases e : a = x
        · subst e
          rw [List.getElem?_set_self (by omega), if_pos (by simp), d1 j a b ha hb2]
        · rw [List.getElem?_set_ne e, hx2 x hx]
          have : x ≠ a := fun h => e h.symm
          simp [this]
      · obtain ⟨l, y6, y8, rfl, rfl, hll, hx2⟩ := hI
        have el : l = d.l := List.ext_getElem? fun x => by
          by_cases hx : x < n
          · rw [hx2 x hx, d.get hx]
            split
            · rfl
            · rename_i hn
              rw [d2 x fun hw2 => hn ?_]
              rw [List.take_of_length_le]
              · exact hw2
              · simp [sl]
          · rw [List.getElem?_eq_none (by omega), List.getElem?_eq_none (by rw [d.len]; omega)]
        subst el
        have hc := hb.app [.lst (dis d.l)]
        simp [hc.obj, grpC]
        have gl := group_least (Q := fun r => r = .v (pD d) (cs2 ++ [.lst (dis d.l)])) hc h1 hn H.ok one fun r hr => by rw [d3 r hr]
        refine gl.mono fun r hr => ?_
        subst hr
        simp [head_at, oNe_tp]
        refine ⟨own' ++ [.lst (dis d.l)], ?_⟩
        have := hs2.push (.lst (dis d.l))
        rw [Nat.mul_add, Nat.mul_one, ← Nat.add_assoc]
        exact this
  · obtain ⟨own', y3, y4, y5, y6, y7, y8, rfl, hs1⟩ := hI
    rw [show (rng 0 3).length = 3 from rng_len 3] at hs1
    have n3 : n * 3 ≤ 60 * 3 := Nat.mul_le_mul hn (by omega)
    have ha := h.hs hs1 (.inl hk)
    have e1 : (w.length : Int) - 1 = ((w.length - 1 : Nat) : Int) := by omega
    simp [e1]
    refine ⟨by omega, ?_⟩
    refine got_for (fun i env cs1 => ∃ (y10 : Option D), env = [some (.cell k), some (.cell g), some (dl w), y3, y4, y5, y6, y7, y8, some (.cell cs'.length), y10, none] ∧ cs1 = cs' ++ [.lst ((w.map (grD c)).take i)])
      ⟨none, rfl, rfl⟩ (fun _ _ _ _ _ => rfl) (fun i x env cs1 hx hI => ?_) fun env cs1 hI => ?_
    · obtain ⟨y10, rfl, rfl⟩ := hI
      obtain ⟨hi, rfl⟩ := rng_at hx
      obtain ⟨a, hwa⟩ : ∃ a, w[i]? = some a := ⟨_, List.getElem?_eq_getElem (by omega)⟩
      have han := H.lt a (List.mem_of_getElem? hwa)
      have haw := List.mem_of_getElem? hwa
      have q1 := atI_dis hwa
      have hc := ha.app [.lst ((w.map (grD c)).take i)]
      have er : rng (i : Int) (w.length : Int) = rng (i : Int) ((i : Int) + ((w.length - i : Nat) : Int)) := by congr 1; omega
      have eo : c.orb a = w.drop i := by rw [H.orb han, if_pos haw, rise_drop H.rise hwa]
      simp [head_at, q1, wipe]
      refine ⟨by omega, ?_⟩
      rw [er]
      refine got_lc (fun j acc cs1 => cs1 = cs' ++ [.lst ((w.map (grD c)).take i)] ∧ acc = ((w.map fun x => pD (c.lf a x)).drop i).take j) ⟨by simp, rfl⟩ (fun _ _ _ _ _ => rfl) (fun j x acc cs1 hx hI => ?_) fun acc cs1 hI => ?_
      · obtain ⟨rfl, rfl⟩ := hI
        obtain ⟨hj, rfl⟩ := rng_get hx
        obtain ⟨b, hwb⟩ : ∃ b, w[i + j]? = some b := ⟨_, List.getElem?_eq_getElem (by omega)⟩
        have hdb : ((w.map fun x => pD (c.lf a x)).drop i)[j]? = some (pD (c.lf a b)) := by rw [List.getElem?_drop, List.getElem?_map, hwb]; rfl
        simp [eYes]
        rw [show ((i : Int) + (j : Int)) = ((i + j : Nat) : Int) by omega]
        refine lift_fn_ok hc hn H hw (by omega) hwa hwb fun p hp => ?_
        refine ⟨_, _, rfl, by omega, rfl, ?_⟩
        rw [List.take_add_one, hdb, hp.lf]
        rfl
      · obtain ⟨rfl, rfl⟩ := hI
        have tk : ((w.map fun x => pD (c.lf a x)).drop i).take (w.length - i) = (w.map fun x => pD (c.lf a x)).drop i := List.take_of_length_le (by simp)
        rw [rng_len2, tk]
        have tl : min i w.length < 16777216 := by omega
        simp [head_at, tl]
        rw [List.take_add_one, List.getElem?_map, hwa]
        simp [grD, eo]
    · obtain ⟨y10, rfl, rfl⟩ := hI
      rw [rng_len]
      have hc := ha.app [.lst ((w.map (grD c)).take (w.length - 1))]
      have ed : (w.map (grD c)).take (w.length - 1) = w.dropLast.map (grD c) := by rw [List.dropLast_eq_take, List.map_take]
      rw [ed] at hc ⊢
      have ec : cut (dis w) none (some (-1)) = dis w.dropLast := by
        unfold cut sIx
        simp only [if_pos (show ((-1 : Int) < 0) by decide), List.drop_zero, Nat.sub_zero, List.length_map]
        rw [show ((-1 : Int) + (w.length : Int)).toNat = w.length - 1 by omega, List.dropLast_eq_take, dis, dis, List.map_take]
      obtain ⟨wd, ewd⟩ : ∃ wd, wd = w.dropLast := ⟨_, rfl⟩
      rw [← ewd] at ec
      obtain ⟨GL, eGL⟩ : ∃ GL, GL = w.dropLast.map (grD c) := ⟨_, rfl⟩
      rw [← eGL] at hc ⊢
      have fg : (D.lst GL).fit = true := by
        rw [eGL]
        exact fit_list fun x hx => by
          obtain ⟨l, _, rfl⟩ := List.mem_map.mp hx
          exact grD_fit l
      have pg : D.pures GL = true := by
        rw [eGL]
        exact D.pures_iff.mpr fun x hx => by
          obtain ⟨l, _, rfl⟩ := List.mem_map.mp hx
          exact grD_pure l
      have en : oNe (cs' ++ [.lst GL]) (.lst GL) (.cell cs'.length) = some (.bl false) := by
        unfold oNe
        rw [frozen_cell (Nat.zero_le _) head_at pg, frozen_pure (d := .lst GL) pg]
        simp [fg]
      have en2 : oNe (cs' ++ [.lst GL]) (dl wd) (dl wd) = some (.bl false) := by
        unfold oNe
        rw [frozen_pure (d := dl wd) (pures_dis _)]
        simp [fit_dl]
      simp [hc.obj, grpC]
      refine group_ground hc hn H.ok ?_
      rw [H.bigs]
      have eg : (w.dropLast.map fun l => D.tup [di l, .lst ((c.orb l).map fun x => pD (c.lf l x))]) = GL := eGL.symm
      rw [eg]
      simp [en, hc.obj, grpC]
      refine group_base hc hn ?_
      rw [H.bigs, ← ewd]
      simp [ec, en2]
      have hs2 := hs1.push (.lst GL)
      rw [take_eq]
      rw [e1]
      refine (take_ok hs2 (m := ((w.length - 1 : Nat) : Int)) (by omega) (by omega) (by omega)).mono fun r hr => ?_
      obtain ⟨i, cs3, rfl, hi, hs3⟩ := hr
      simp
      rw [show ((1 : Int) + (i : Int)) = ((i + 1 : Nat) : Int) by omega]
      refine (take_ok hs3 (m := ((i + 1 : Nat) : Int)) (by omega) (by omega) (by omega)).mono fun r hr => ?_
      obtain ⟨j, cs4, rfl, hj, hs4⟩ := hr
      have h4 := h.hs hs4 (.inl hk)
      obtain ⟨a, hwa⟩ : ∃ a, w[i + 1]? = some a := ⟨_, List.getElem?_eq_getElem (by omega)⟩
      obtain ⟨b, hwb⟩ : ∃ b, w[j]? = some b := ⟨_, List.getElem?_eq_getElem (by omega)⟩
      have hba := rise_lt H.rise (show j < i + 1 by omega) hwb hwa
      have haw := List.mem_of_getElem? hwa
      have hbw := List.mem_of_getElem? hwb
      have q1 := atI_dis hwa
      have q2 := atI_dis hwb
      have hi2 : i + 1 < w.length := by omega
      generalize i + 1 = i1 at *
      simp [q1, q2]
      refine refused_1 h4 hn H.ok (H.lt a haw) (fun hc => ?_) ?_
      · rw [H.key (H.lt a haw), if_pos haw] at hc
        omega
      · simp [q1, q2, h4.obj, grpC]
        refine group_lift h4 hn H.ok (H.lt b hbw) a (fun _ r hr => ?_) fun hc => absurd ((H.key (H.lt b hbw)).mpr (by rw [if_pos hbw]; exact ⟨haw, by omega⟩)) hc
        simp
        refine lift_fn_ok h4 hn H hw (by omega) hwb hwa fun p hp => ?_
        have := hp.uniq hr
        subst this
        simp [oEq_tp]
        exact ⟨_, _, _, ⟨rfl, rfl⟩, hs4.mono (by omega), _, frozen_pure rfl, fun cs5 h5 => q cs5 (hs.trans h5)⟩
end
end k91
end
section
set_option linter.all false
set_option maxHeartbeats 4000000
namespace k91
open PySem Mi
section
variable {n : Nat} {cs : Cs} {g : Nat} {ms : List (Pm n)} {c : Chn n} {w : List Nat} {Q : R D → Prop}
theorem l_behind_ok (p q : Pm n) (hn : n ≤ 60) (h : Q (.v (pD (p * q)) cs)) : got (popped f__law_behind [pD p, pD q] cs) Q := behind_ok p q hn h
theorem l_back_ok (p : Pm n) (hn : n ≤ 60) (h : Q (.v (pD p⁻¹) cs)) : got (popped f__law_back [pD p] cs) Q := back_ok p hn h
theorem worked_ok (hn : n ≤ 60) {L : List Ln} (hL : Al (some ms) L) (hl : L.length ≤ 8000000) (q : ∀ M : List (Pm n), M.length = L.length → (∀ i p, Lv ms L i p → M[i]? = some p) → Q (.v (.lst (M.map pD)) cs)) : got (popped f__law_worked [.lst (L.map Ln.D), .lst (ms.map pD), di n] cs) Q := by
  refine got_popped (got_fn rfl ?_)
  simp [b__law_worked]
  refine got_for (fun i env cs' => ∃ (M : List (Pm n)) (y4 : Option D), env = [some (.lst (L.map Ln.D)), some (.lst (ms.map pD)), some (di n), some (.cell cs.length), y4] ∧ cs' = cs ++ [.lst (M.map pD)] ∧ M.length = i ∧ ∀ j, j < i → ∀ p, Lv ms L j p → M[j]? = some p)
    ⟨[], none, rfl, rfl, rfl, fun j hj => absurd hj (Nat.not_lt_zero _)⟩ (fun _ _ _ _ _ => rfl) (fun i x env cs' hx hI => ?_) fun env cs' hI => ?_
  · obtain ⟨M, y4, rfl, rfl, hM, hj⟩ := hI
    rw [List.getElem?_map] at hx
    obtain ⟨y, hy, rfl⟩ := Option.map_eq_some_iff.mp hx
    have hi := (List.getElem?_eq_some_iff.mp hy).1
    obtain ⟨p, hp⟩ := hL i hi
    obtain ⟨t, et, h1, h2, h3, h4⟩ := tag_eq (cs := cs ++ [.lst (M.map pD)]) y
    have sM : M.length < 16777216 := by omega
    have fin : ∀ p : Pm n, (∀ p', Lv ms L i p' → p' = p) → ∃ M' : List (Pm n), M.map pD ++ [pD p] = M'.map pD ∧ M'.length = i + 1 ∧ ∀ j, j < i + 1 → ∀ p, Lv ms L j p → M'[j]? = some p := fun p hp => by
      refine ⟨M ++ [p], by simp, by simp [hM], fun j hji p' hp' => ?_⟩
      by_cases e : j = i
      · subst e
        rw [hp p' hp', ← hM]
        exact last_get _ _
      · exact get_app (hj j (by omega) p' hp') _
    rw [et]
    cases y with
    | still =>
      obtain ⟨M', e, e2, e3⟩ := fin 1 fun p' hp' => by
        cases hp' with
        | still _ => rfl
        | told h _ => rw [hy] at h; cases h
        | beh h => rw [hy] at h; cases h
        | bck h => rw [hy] at h; cases h
      simp [h3, head_at, sM]
      rw [rng_nat]
      exact ⟨by omega, M', e, e2, e3⟩
    | told k =>
      have hk : ms[k]? = some p := by
        cases hp with
        | still h => rw [hy] at h; cases h
        | told h e => rw [hy] at h; cases h; exact e
        | beh h => rw [hy] at h; cases h
        | bck h => rw [hy] at h; cases h
      obtain ⟨M', e, e2, e3⟩ := fin p fun p' hp' => by
        cases hp' with
        | still h => rw [hy] at h; cases h
        | told h e => rw [hy] at h; cases h; rw [hk] at e; exact (Option.some.inj e).symm
        | beh h => rw [hy] at h; cases h
        | bck h => rw [hy] at h; cases h
      have q1 : atI (ms.map pD) (k : Int) = some (pD p) := atI_nat (by rw [List.getElem?_map, hk]; rfl)
      simp [h3, h4, head_at, sM, Ln.args, q1]
      exact ⟨M', e, e2, e3⟩
    | beh a b =>
      obtain ⟨pa, pb, ha, hb, la, lb⟩ : ∃ pa pb, a < i ∧ b < i ∧ Lv ms L a pa ∧ Lv ms L b pb := by
        cases hp with
        | still h => rw [hy] at h; cases h
        | told h e => rw [hy] at h; cases h
        | beh h ha hb la lb => rw [hy] at h; cases h; exact ⟨_, _, ha, hb, la, lb⟩
        | bck h => rw [hy] at h; cases h
      have ma := hj a ha pa la
      have mb := hj b hb pb lb
      obtain ⟨M', e, e2, e3⟩ := fin (pa * pb) fun p' hp' => by
        cases hp' with
        | still h => rw [hy] at h; cases h
        | told h e => rw [hy] at h; cases h
        | beh h _ _ la' lb' =>
          rw [hy] at h
          cases h
          have h1 := hj a ha _ la'
          have h2 := hj b hb _ lb'
          rw [ma] at h1
          rw [mb] at h2
          rw [Option.some.inj h1, Option.some.inj h2]
        | bck h => rw [hy] at h; cases h
      have q1 : atI (M.map pD) (a : Int) = some (pD pa) := atI_nat (by rw [List.getElem?_map, ma]; rfl)
      have q2 : atI (M.map pD) (b : Int) = some (pD pb) := atI_nat (by rw [List.getElem?_map, mb]; rfl)
      simp [h1, h3, h4, head_at, sM, Ln.args, Ln.names, q1, q2]
      refine l_behind_ok _ _ hn ?_
      simp [head_at, sM]
      exact ⟨M', e, e2, e3⟩
    | bck a =>
      obtain ⟨pa, ha, la⟩ : ∃ pa, a < i ∧ Lv ms L a pa := by
        cases hp with
        | still h => rw [hy] at h; cases h
        | told h e => rw [hy] at h; cases h
        | beh h => rw [hy] at h; cases h
        | bck h ha la => rw [hy] at h; cases h; exact ⟨_, ha, la⟩
      have ma := hj a ha pa la
      obtain ⟨M', e, e2, e3⟩ := fin pa⁻¹ fun p' hp' => by
        cases hp' with
        | still h => rw [hy] at h; cases h
        | told h e => rw [hy] at h; cases h
        | beh h => rw [hy] at h; cases h
        | bck h _ la' =>
          rw [hy] at h
          cases h
          have h1 := hj a ha _ la'
          rw [ma] at h1
          rw [Option.some.inj h1]
      have q1 : atI (M.map pD) (a : Int) = some (pD pa) := atI_nat (by rw [List.getElem?_map, ma]; rfl)
      simp [h1, h2, h3, h4, head_at, sM, Ln.args, Ln.names, q1]
      refine l_back_ok _ hn ?_
      simp [head_at, sM]
      exact ⟨M', e, e2, e3⟩
  · obtain ⟨M, y4, rfl, rfl, hM, hj⟩ := hI
    rw [List.length_map] at hM hj
    simp
    refine ⟨_, _, ⟨rfl, rfl⟩, _, frozen_cell (by omega) head_at (D.pures_iff.mpr fun x hx => ?_), q M hM fun i p hp => hj i hp.lt p hp⟩
    obtain ⟨z, _, rfl⟩ := List.mem_map.mp hx
    exact pD_pure z
end
end k91
end
section
set_option linter.all false
set_option maxHeartbeats 4000000
namespace k91
open PySem Mi
section
variable {n : Nat} {cs : Cs} {g X : Nat} {ms : List (Pm n)} {c : Chn n} {w : List Nat} {Q : R D → Prop}
theorem cut_dropLast (w : List Nat) : cut (dis w) none (some (-1)) = dis w.dropLast := by
  unfold cut sIx
  simp only [if_pos (show ((-1 : Int) < 0) by decide), List.drop_zero, Nat.sub_zero, List.length_map]
  rw [show ((-1 : Int) + (w.length : Int)).toNat = w.length - 1 by omega, List.dropLast_eq_take, dis, dis, List.map_take]
theorem oNe_dl (a b : List Nat) {cs : Cs} : oNe cs (dl a) (dl b) = some (.bl (!decide (a = b))) := by
  unfold oNe
  rw [frozen_pure (d := dl a) (pures_dis a), frozen_pure (d := dl b) (pures_dis b)]
  simp only [Option.bind_some, fit_dl, Bool.and_self, if_true]
  have e : (dl a = dl b) = (a = b) := by
    rw [D.lst.injEq]
    exact propext dis_inj
  simp [e]
theorem oEq_dl (a b : List Nat) {cs : Cs} : oEq cs (dl a) (dl b) = some (.bl (decide (a = b))) := by
  unfold oEq
  rw [frozen_pure (d := dl a) (pures_dis a), frozen_pure (d := dl b) (pures_dis b)]
  simp only [Option.bind_some, fit_dl, Bool.and_self, if_true]
  have e : (dl a = dl b) = (a = b) := by
    rw [D.lst.injEq]
    exact propext dis_inj
  simp [e]
theorem lnOf_at {l : Nat} (o : SOk (c.st l) l) {f : Lf n} (hf : f ∈ (c.st l).lifts) : c.lnOf l f.key = f.ln := by
  unfold Chn.lnOf
  rw [find_of o.nodup hf]
  rfl
theorem paper_ok (h : GAt cs g ms c) (G : Good ms (some ms) X c) (h1 : 1 ≤ n) (hn : n ≤ 60) (hX : X ≤ 1000000) (H : AllOf c w) (hw : w.length ≤ 60) (q : Q (.v (.bl true) cs)) : got (popped f__law_paper_right [.cell g, dl w, .lst (ms.map pD)] cs) Q := by
  refine got_popped (got_fn rfl ?_)
  have phl : c.ph ≤ 651780 := by
    have := Chn.ph_le H.ok G.ci.gb
    have : n * (3 * (n * n + 1) + n) ≤ 60 * (3 * 3601 + 60) := Nat.mul_le_mul hn (by have : n * n ≤ 3600 := Nat.mul_le_mul hn hn; omega)
    omega
  have lb := G.ci.lb
  simp [b__law_paper_right, h.obj, grpC]
  refine group_paper h hn H.ok (by omega) ?_
  simp [h.obj, grpC]
  refine worked_ok hn G.ci.lok.al (by omega) fun M hM hMv => ?_
  simp [wipe]
  refine got_lc_map (fun d => match d with | .tup (x :: _) => x | d => d) rfl (by rw [List.length_map]; have := bigs_len (c := c); show _ ≤ 16777216; omega) (fun x hx => ?_) ?_
  · obtain ⟨l, hl, rfl⟩ := List.mem_map.mp hx
    simp [Chn.papD, eYes]
  · have eb : List.map (fun d => match d with | D.tup (x :: _) => x | d => d) (c.bigs.map c.papD) = dis c.bigs := by
      rw [List.map_map]
      rfl
    rw [eb, H.bigs]
    have e1 := cut_dropLast w
    have e2 := oNe_dl w.dropLast w.dropLast (cs := cs)
    obtain ⟨wd, ewd⟩ : ∃ wd, wd = w.dropLast := ⟨_, rfl⟩
    rw [← ewd] at e1 e2 ⊢
    simp [e1, e2]
    refine got_for (fun i env cs' => ∃ (y6 y7 y8 y9 y10 : Option D), env = [some (.cell g), some (dl w), some (.lst (ms.map pD)), some (.lst (c.lines.map Ln.D)), some (.lst (wd.map c.papD)), some (.lst (M.map pD)), y6, y7, y8, y9, y10] ∧ cs' = cs)
      ⟨none, none, none, none, none, rfl, rfl⟩ (fun _ _ _ _ _ => rfl) (fun i x env cs' hx hI => ?_) fun env cs' hI => ?_
    · obtain ⟨y6, y7, y8, y9, y10, rfl, rfl⟩ := hI
      obtain ⟨y, hy, rfl⟩ := pairs_at hx
      rw [Nat.zero_add]
      rw [List.getElem?_map] at hy
      obtain ⟨l, hl, rfl⟩ := Option.map_eq_some_iff.mp hy
      have hwl : w[i]? = some l := by
        rw [ewd, List.dropLast_eq_take, List.getElem?_take] at hl
        split at hl
        · exact hl
        · cases hl
      have hil := (List.getElem?_eq_some_iff.mp hwl).1
      have hlw := List.mem_of_getElem? hwl
      have hln := H.lt l hlw
      have o := H.ok l hln
      have eo : c.orb l = w.drop i := by rw [H.orb hln, if_pos hlw, rise_drop H.rise hwl]
      have dr := drop_at hwl
      have ol : (c.orb l).length ≤ 60 := by rw [eo, List.length_drop]; omega
      have kf : ∀ x ∈ c.orb l, ∃ f ∈ (c.st l).lifts, f.key = x ∧ M[c.lnOf l x]? = some f.g := fun x hx => by
        obtain ⟨f, hf, rfl⟩ := orb_mem.mp hx
        exact ⟨f, hf, rfl, by rw [lnOf_at o hf]; exact hMv _ _ (G.ci.lok.lifts l hln f hf)⟩
      have m0 : M[c.lnOf l l]? = some 1 := by
        obtain ⟨r, e⟩ := o.head
        have hm : (⟨l, 1, 0⟩ : Lf n) ∈ (c.st l).lifts := by rw [e]; exact List.mem_cons_self
        have := hMv _ _ (G.ci.lok.lifts l hln _ hm)
        rw [← lnOf_at o hm] at this
        exact this
      have c1 : cut (dis w) (some (i : Int)) none = dis (w.drop i) := by rw [cut_from (by rw [List.length_map]; omega), dis, dis, List.map_drop]
      have e3 := oNe_dl (w.drop i) (w.drop i) (cs := cs')
      have h0 : (c.orb l)[0]? = some l := by rw [eo, dr]; rfl
      have q0 : atI ((c.orb l).map fun x => D.tup [di x, di (c.lnOf l x)]) 0 = some (.tup [di l, di (c.lnOf l l)]) := atI_nat (j := 0) (by rw [List.getElem?_map, h0]; rfl)
      have q2 : atI (M.map pD) (c.lnOf l l : Int) = some (pD (1 : Pm n)) := atI_nat (by rw [List.getElem?_map, m0]; rfl)
      have e4 : oNe cs' (pD (1 : Pm n)) (.tup (rng 0 (n : Int))) = some (.bl false) := by
        rw [rng_nat, oNe_tp, Pm.one_l]
        simp
      rw [← eo] at c1 e3
      obtain ⟨ob, eob⟩ : ∃ ob, ob = c.orb l := ⟨_, rfl⟩
      rw [← eob] at c1 e3 ol kf q0
      simp [Chn.papD, wipe]
      rw [← eob]
      refine got_lc_map (fun d => match d with | .tup (x :: _) => x | d => d) rfl (by rw [List.length_map]; show _ ≤ 16777216; omega) (fun x hx => ?_) ?_
      · obtain ⟨y, hy, rfl⟩ := List.mem_map.mp hx
        simp [eYes]
      · have eb : List.map (fun d => match d with | D.tup (x :: _) => x | d => d) (ob.map fun x => D.tup [di x, di (c.lnOf l x)]) = dis ob := by
          rw [List.map_map]
          rfl
        rw [eb]
        simp [c1, e3]
        refine got_for (fun j env cs1 => ∃ (y9 y10 : Option D), env = [some (.cell g), some (dl w), some (.lst (ms.map pD)), some (.lst (c.lines.map Ln.D)), some (.lst (wd.map c.papD)), some (.lst (M.map pD)), some (di l), some (.lst (ob.map fun x => D.tup [di x, di (c.lnOf l x)])), some (di i), y9, y10] ∧ cs1 = cs')
          ⟨y9, y10, by simp [Chn.papD], rfl⟩ (fun _ _ _ _ _ => rfl) (fun j x env cs1 hx hI => ?_) fun env cs1 hI => ?_
        · obtain ⟨y9, y10, rfl, rfl⟩ := hI
          rw [List.getElem?_map] at hx
          obtain ⟨z, hz, rfl⟩ := Option.map_eq_some_iff.mp hx
          obtain ⟨f, hf, hfk, hMf⟩ := kf z (List.mem_of_getElem? hz)
          have fl := o.lift f hf
          have q3 : atI (M.map pD) (c.lnOf l z : Int) = some (pD f.g) := atI_nat (by rw [List.getElem?_map, hMf]; rfl)
          have q4 := pD_at f.g hln
          rw [fl.2, hfk] at q4
          have q5 : cut (dis f.g.l) none (some (l : Int)) = dis (List.range l) := by
            unfold cut sIx
            have e1 : ¬ ((l : Int) < 0) := by omega
            simp only [e1, if_false, Int.toNat_natCast, List.drop_zero, Nat.sub_zero, List.length_map, f.g.len]
            rw [Nat.min_eq_left (by omega), dis, dis, ← List.map_take]
            congr 1
            refine List.ext_getElem? fun m => ?_
            rw [List.getElem?_take]
            by_cases hm : m < l
            · rw [if_pos hm, List.getElem?_range hm, f.g.get (by omega), fl.1 m hm]
            · rw [if_neg hm, List.getElem?_eq_none (by rw [List.length_range]; omega)]
          have q6 : oNe cs1 (.tup (dis (List.range l))) (.tup (rng 0 (l : Int))) = some (.bl false) := by
            rw [rng_nat]
            have := oNe_tp (List.range l) (List.range l) (cs := cs1)
            rw [this]
            simp
          obtain ⟨rl, erl⟩ : ∃ rl, rl = dis (List.range l) := ⟨_, rfl⟩
          rw [← erl] at q5 q6
          simp [q3, q4, q5, q6]
          omega
        · obtain ⟨y9, y10, rfl, rfl⟩ := hI
          simp [q0, q2, h.obj, grpC, e4]
          omega
    · obtain ⟨y6, y7, y8, y9, y10, rfl, rfl⟩ := hI
      simp
      exact ⟨_, [], ⟨rfl, by simp⟩, _, frozen_pure rfl, q⟩
end
end k91
end
section
set_option linter.all false
set_option maxHeartbeats 4000000
namespace k91
open PySem Mi
section
variable {n : Nat} {cs : Cs} {g X : Nat} {ms : List (Pm n)} {c : Chn n} {w : List Nat} {Q : R D → Prop}
theorem tag_in {cs : Cs} (x : Ln) : ∃ t : Str, x.D = .tup (.str t :: dis x.args) ∧ oInF cs (.str t) (.tup [.str "behind", .str "back"]) = some (.bl (match x with | .beh _ _ => true | .bck _ => true | _ => false)) := by
  cases x <;> refine ⟨_, rfl, ?_⟩ <;> (simp only [oInF, seqOf_t, Option.bind_some]; rw [if_pos (by decide +kernel)]; congr 2 <;> decide +kernel)
def NmB (L : List Ln) (i a : Nat) : Prop := ∃ (j : Nat) (x : Ln), j < i ∧ L[j]? = some x ∧ a ∈ x.names
theorem atI_last {α : Type} {xs : List α} {x : α} (h : xs[xs.length - 1]? = some x) : atI xs (-1) = some x := by
  have := (List.getElem?_eq_some_iff.mp h).1
  unfold atI ixN
  rw [if_neg (by decide), if_pos (by omega)]
  rw [show ((-1 : Int) + (xs.length : Int)).toNat = xs.length - 1 by omega]
  exact h
theorem recipe_ok {cs0 own : Cs} {k t : Nat} (hs : Hs cs0 k t own cs) (h : GAt cs g ms c) (G : Good ms (some ms) X c) (hk : k < g) (h1 : 1 ≤ n) (hn : n ≤ 60) (hX : X ≤ 1000000) (H : AllOf c w) (hw : w.length ≤ 60) (ht : t < 2 ^ 60)
    (q : ∀ cs2 : Cs, Hs cs0 k (t + 4) own cs2 → Q (.v (.bl true) cs2)) : got (popped f__law_recipe_right [.cell k, .cell g, dl w, .lst (ms.map pD), di (fac w.length)] cs) Q := by
  refine got_poppedH (k := k) (t := t + 4) (got_fn rfl ?_)
  have R := hs.refl
  have fp := fac_pos w.length
  simp [b__law_recipe_right, h.obj, grpC]
  refine drawn_below_ok R fp (by omega) fun num cs3 hnum hs3 => ?_
  have h3 := h.hs hs3 (.inl hk)
  obtain ⟨p, p1, p2, p3, p4, p5⟩ := due_of H hnum
  simp
  refine by_number_ok hw hnum ?_
  simp
  refine made_ok p hn p3 p1 p2 H.lt ?_
  simp [h3.obj, grpC]
  refine group_recipe h3 G h1 hn hX p (fun _ L hL hlen => ?_) fun hc => absurd p4 hc
  simp [puts]
  have hpos : 0 < L.length := List.length_pos_iff.mpr hL.ne
  refine got_for (fun i env cs' => ∃ (N : List Nat) (y8 y9 : Option D), env = [some (.cell k), some (.cell g), some (dl w), some (.lst (ms.map pD)), some (di (fac w.length)), some (pD p), some (.lst (L.map Ln.D)), some (.cell cs3.length), y8, y9] ∧ cs' = cs3 ++ [sd N] ∧ N.Nodup ∧ ∀ a, a ∈ N ↔ NmB L i a)
    ⟨[], none, none, rfl, rfl, by simp, fun a => by simp [NmB]⟩ (fun _ _ _ _ _ => rfl) (fun i x env cs' hx hI => ?_) fun env cs' hI => ?_
  · obtain ⟨N, y8, y9, rfl, rfl, nd, hN⟩ := hI
    rw [List.getElem?_map] at hx
    obtain ⟨y, hy, rfl⟩ := Option.map_eq_some_iff.mp hx
    have hi := (List.getElem?_eq_some_iff.mp hy).1
    obtain ⟨t, et, hin⟩ := tag_in (cs := cs3 ++ [sd N]) y
    have next : ∀ a, NmB L (i + 1) a ↔ a ∈ N ∨ a ∈ y.names := fun a => by
      rw [hN]
      constructor
      · rintro ⟨j, x, h1, h2, h3⟩
        by_cases e : j = i
        · subst e
          rw [hy] at h2
          cases h2
          exact .inr h3
        · exact .inl ⟨j, x, by omega, h2, h3⟩
      · rintro (⟨j, x, h1, h2, h3⟩ | h)
        · exact ⟨j, x, by omega, h2, h3⟩
        · exact ⟨i, y, by omega, hy, h⟩
    have ltN : ∀ a ∈ N, a < L.length := fun a ha => by
      obtain ⟨j, x, h1, h2, h3⟩ := (hN a).mp ha
      have := hL.val j x h2 a h3
      omega
    have c1 : ∀ (a : D) (r : List D), cut (a :: r) (some (1 : Int)) none = r := fun a r => by
      have := cut_from (xs := a :: r) (l := 1) (by simp)
      simpa using this
    rw [et]
    have walk : ∀ (b : Bool), y.args = y.names → got (forL (gN 9) (sPut putD (eVar 7) (eVar 9) (eC (D.bl true))) (fun _ => true) (dis y.args) [some (.cell k), some (.cell g), some (dl w), some (.lst (ms.map pD)), some (di (fac w.length)), some (pD p), some (.lst (L.map Ln.D)), some (.cell cs3.length), some (.tup (.str t :: dis y.args)), y9] (cs3 ++ [sd N]))
        fun o => ∃ (N' : List Nat) (y9 : Option D), o = .nx [some (.cell k), some (.cell g), some (dl w), some (.lst (ms.map pD)), some (di (fac w.length)), some (pD p), some (.lst (L.map Ln.D)), some (.cell cs3.length), some (.tup (.str t :: dis y.args)), y9] (cs3 ++ [sd N']) ∧ N'.Nodup ∧ ∀ a, a ∈ N' ↔ a ∈ N ∨ a ∈ y.names := fun _ ea => by
      refine got_for (fun j env cs' => ∃ (N' : List Nat) (y9 : Option D), env = [some (.cell k), some (.cell g), some (dl w), some (.lst (ms.map pD)), some (di (fac w.length)), some (pD p), some (.lst (L.map Ln.D)), some (.cell cs3.length), some (.tup (.str t :: dis y.args)), y9] ∧ cs' = cs3 ++ [sd N'] ∧ N'.Nodup ∧ ∀ a, a ∈ N' ↔ a ∈ N ∨ a ∈ y.names.take j)
        ⟨N, y9, rfl, rfl, nd, fun a => by simp⟩ (fun _ _ _ _ _ => rfl) (fun j x env cs' hx hI => ?_) fun env cs' hI => ?_
      · obtain ⟨N', y9, rfl, rfl, nd', hN'⟩ := hI
        rw [ea, List.getElem?_map] at hx
        obtain ⟨b, hb, rfl⟩ := Option.map_eq_some_iff.mp hx
        have hbm := List.mem_of_getElem? hb
        have lt' : N'.length ≤ L.length := nodup_lt nd' fun x hx => ((hN' x).mp hx).elim (ltN x) fun h => Nat.lt_trans (hL.val i y hy x ((List.take_subset _ _) h)) hi
        simp [head_at, put_tru]
        refine ⟨by omega, addN N' b, by simp, addN_nodup b nd', fun a => ?_⟩
        rw [addN_mem, hN', List.take_add_one, hb]
        simp [or_assoc]
      · obtain ⟨N', y9, rfl, rfl, nd', hN'⟩ := hI
        rw [ea, List.length_map, List.take_length] at hN'
        exact ⟨N', y9, rfl, nd', hN'⟩
    cases y with
    | still =>
      simp [hin]
      exact ⟨N, ⟨rfl, rfl⟩, nd, fun a => by rw [next]; simp [Ln.names]⟩
    | told k =>
      simp [hin]
      exact ⟨N, ⟨rfl, rfl⟩, nd, fun a => by rw [next]; simp [Ln.names]⟩
    | beh a b =>
      simp [hin, c1]
      refine (walk true rfl).mono fun o ho => ?_
      obtain ⟨N', y9, rfl, nd', hN'⟩ := ho
      simp
      exact ⟨N', ⟨rfl, rfl⟩, nd', fun a => by rw [next, hN']⟩
    | bck a =>
      simp [hin, c1]
      refine (walk true rfl).mono fun o ho => ?_
      obtain ⟨N', y9, rfl, nd', hN'⟩ := ho
      simp
      exact ⟨N', ⟨rfl, rfl⟩, nd', fun a => by rw [next, hN']⟩
  · obtain ⟨N, y8, y9, rfl, rfl, nd, hN⟩ := hI
    rw [List.length_map] at hN
    have h4 := h3.app [sd N]
    have sN : srt N = List.range (L.length - 1) := rise_eq (srt_rise nd) (rise_range _) fun a => by
      rw [(srt_perm N).mem_iff, hN, List.mem_range]
      constructor
      · rintro ⟨j, x, h1, h2, h3⟩
        have := hL.val j x h2 a h3
        omega
      · intro ha
        obtain ⟨j, x, h1, h2⟩ := hL.named a (by omega)
        exact ⟨j, x, (List.getElem?_eq_some_iff.mp h1).1, h1, h2⟩
    have lN : N.length ≤ L.length := nodup_lt nd fun a ha => by
      obtain ⟨j, x, h1, h2, h3⟩ := (hN a).mp ha
      have := hL.val j x h2 a h3
      omega
    simp [h4.obj, grpC]
    refine worked_ok hn hL.all hlen fun M hM hMv => ?_
    have ml : M[M.length - 1]? = some p := by rw [hM]; exact hMv _ _ hL.makes
    have q1 : atI (M.map pD) (-1) = some (pD p) := atI_last (by rw [List.length_map, List.getElem?_map, ml]; rfl)
    have es := sortD_dis (l := N) (by omega)
    rw [sN] at es
    have e1 : (L.length : Int) - 1 = ((L.length - 1 : Nat) : Int) := by omega
    have e2 : oEq (cs3 ++ [sd N]) (.lst (dis (List.range (L.length - 1)))) (.lst (dis (List.range (L.length - 1)))) = some (.bl true) := by
      have := oEq_dl (List.range (L.length - 1)) (List.range (L.length - 1)) (cs := cs3 ++ [sd N])
      rwa [decide_eq_true rfl] at this
    simp [q1, oEq_tp, head_at]
    rw [e1]
    obtain ⟨rl, erl⟩ : ∃ rl, rl = dis (List.range (L.length - 1)) := ⟨_, rfl⟩
    rw [rng_nat]
    rw [← erl] at es e2 ⊢
    have es' : sortD (List.map di N) = some rl := es
    simp [es', e2]
    refine ⟨⟨by omega, by omega⟩, _, _, _, ⟨rfl, rfl⟩, hs3.push (sd N), _, frozen_pure rfl, fun cs5 h5 => q cs5 (hs.trans h5)⟩
end
end k91
end
section
set_option linter.all false
set_option maxHeartbeats 4000000
namespace Mi
open PySem
section
variable {env : Env} {cs : Cs} {QL : R (List D) → Prop}
def backOf (x : Cs → Option (List D)) (cs : Cs) : Option Int → Option (List D)
  | some i => (x cs).bind fun xs => if 0 ≤ i ∧ i < (xs.length : Int) then some (xs.take (i.toNat + 1)).reverse else none
  | none => none
@[simp] theorem backOf_s {x : Cs → Option (List D)} {i : Int} : backOf x cs (some i) = (x cs).bind fun xs => if 0 ≤ i ∧ i < (xs.length : Int) then some (xs.take (i.toNat + 1)).reverse else none := rfl
@[simp] theorem got_lBackF {a b} : got (lBackF a b env cs) QL = got (a env cs) (kont (fun x cs => bnd (partE (some b) env cs) fun y cs => out (backOf (fun cs => lstOf cs x) cs y) cs) QL) := by
  simp only [lBackF, got_bnd]
  congr 2
  funext x cs
  congr 1
  funext y cs
  cases y with
  | none => simp only [backOf]; cases lstOf cs x <;> rfl
  | some i => rfl
end
theorem Hs.more {cs cs1 own : Cs} {k t : Nat} (h : Hs cs k t own cs1) (ys : Cs) : Hs cs k t (own ++ ys) (cs1 ++ ys) := by
  obtain ⟨a, s, c, rfl, hi⟩ := h
  exact ⟨a, s, c, by rw [List.append_assoc], hi⟩
section
variable {n : Nat}
theorem loop_gen {s : List Nat} (hs : s.Nodup) (hl : ∀ x ∈ s, x < n) {m1 m2 : Pm n} {a0 a1 : Nat} (h0 : s[0]? = some a0) (h1 : s[1]? = some a1)
    (c1 : ∀ (i a b : Nat), s[i]? = some a → s[i + 1]? = some b → m1 a = b) (c2 : Sy (· ∈ s) m1) (e2 : ∀ x, m2 x = Pm.swf a0 a1 x) (g : Pm n) : Gen (fun g => g ∈ [m1, m2]) g ↔ Sy (· ∈ s) g := by
  have i0 := List.mem_of_getElem? h0
  have i1 := List.mem_of_getElem? h1
  have em2 : m2 = Pm.sw a0 a1 (hl a0 i0) (hl a1 i1) := Pm.ext' fun x => by rw [e2, Pm.sw_ap]
  constructor
  · intro h
    refine h.sub (Sy.sg _) fun x hx => ?_
    simp at hx
    rcases hx with rfl | rfl
    · exact c2
    · rw [em2]
      exact Sy.sw _ _ i0 i1
  · intro h
    have sg := Gen.sg (fun g => g ∈ [m1, m2])
    have hm1 : Gen (fun g => g ∈ [m1, m2]) m1 := .of (by simp)
    have hm2 : Gen (fun g => g ∈ [m1, m2]) m2 := .of (by simp)
    have st1 : ∀ (i a b : Nat) (ha : a < n) (hb : b < n), s[i]? = some a → s[i + 1]? = some b → Gen (fun g => g ∈ [m1, m2]) (Pm.sw a b ha hb) := fun i => by
      induction i with
      | zero =>
        intro a b ha hb h2 h3
        rw [h0] at h2
        rw [h1] at h3
        cases h2
        cases h3
        rw [← em2]
        exact hm2
      | succ i ih =>
        intro a b ha hb h2 h3
        have hil := (List.getElem?_eq_some_iff.mp h2).1
        obtain ⟨z, hz⟩ : ∃ z, s[i]? = some z := ⟨_, List.getElem?_eq_getElem (by omega)⟩
        have hzn := hl z (List.mem_of_getElem? hz)
        have e := Pm.sw_conj m1 hzn ha
        have q1 := c1 i z a hz h2
        have q2 := c1 (i + 1) a b h2 h3
        have := sg.mul (sg.mul (sg.inv hm1) (ih z a hzn ha hz h2)) hm1
        rw [e] at this
        simp only [q1, q2] at this
        exact this
    have st2 : ∀ (d i a b : Nat) (ha : a < n) (hb : b < n), s[i]? = some a → s[i + d + 1]? = some b → Gen (fun g => g ∈ [m1, m2]) (Pm.sw a b ha hb) := fun d => by
      induction d with
      | zero => intro i a b ha hb h2 h3; exact st1 i a b ha hb h2 h3
      | succ d ih =>
        intro i a b ha hb h2 h3
        have hil := (List.getElem?_eq_some_iff.mp h3).1
        obtain ⟨z, hz⟩ : ∃ z, s[i + d + 1]? = some z := ⟨_, List.getElem?_eq_getElem (by omega)⟩
        have hzn := hl z (List.mem_of_getElem? hz)
        have t := st1 (i + d + 1) z b hzn hb hz (by rw [show i + d + 1 + 1 = i + (d + 1) + 1 by omega]; exact h3)
        have e := Pm.sw_conj (Pm.sw z b hzn hb) ha hzn
        have naz : a ≠ z := fun e => by
          subst e
          have := (List.getElem?_inj (List.getElem?_eq_some_iff.mp h2).1 hs).mp (h2.trans hz.symm)
          omega
        have nab : a ≠ b := fun e => by
          subst e
          have := (List.getElem?_inj (List.getElem?_eq_some_iff.mp h2).1 hs).mp (h2.trans h3.symm)
          omega
        have := sg.mul (sg.mul (sg.inv t) (ih i a z ha hzn h2 hz)) t
        rw [e] at this
        simp only [Pm.sw_o naz nab, Pm.sw_l] at this
        exact this
    refine sy_gen sg (fun a b ha hb wa wb => ?_) h
    obtain ⟨i, hi⟩ := List.getElem?_of_mem wa
    obtain ⟨j, hj⟩ := List.getElem?_of_mem wb
    rcases Nat.lt_trichotomy i j with hij | hij | hij
    · exact st2 (j - i - 1) i a b ha hb hi (by rw [show i + (j - i - 1) + 1 = j by omega]; exact hj)
    · subst hij
      rw [hi] at hj
      cases hj
      rw [Pm.sw_self]
      exact sg.one
    · rw [Pm.sw_comm]
      exact st2 (i - j - 1) j b a hb ha hj (by rw [show j + (i - j - 1) + 1 = i by omega]; exact hi)
end
end Mi
namespace k91
open PySem Mi
theorem hand_eq : f__law_hand = fn 2 5 h_hand := rfl
theorem cut_to {α : Type} {xs : List α} {j : Nat} (hj : j ≤ xs.length) : cut xs none (some (j : Int)) = xs.take j := by
  unfold cut sIx
  have e2 : ¬ ((j : Int) < 0) := by omega
  simp only [e2, if_false, Int.toNat_natCast, List.drop_zero, Nat.sub_zero]
  rw [Nat.min_eq_left hj]
theorem law_ok (ns : List Int) (hn : ns.length ≤ 63) : ∃ cs : Cs, f_law [.fro (ns.map .int)] [] = some (.v (.bl true) cs) := by
  have : got (f_law [.fro (ns.map .int)] []) fun r => ∃ cs, r = .v (.bl true) cs := by
    refine got_fn rfl ?_
    simp [b_law]
    generalize es : (if (if (ns.length : Int) < 2 then (ns.length : Int) else 2) > 1 then (if (ns.length : Int) < 2 then (ns.length : Int) else 2) else 1) = lim
    obtain ⟨m, hm, rfl⟩ : ∃ m : Nat, m < 4 ∧ lim = (m : Int) := by
      refine ⟨lim.toNat, ?_, ?_⟩
      · rw [← es]
        split <;> split <;> omega
      · rw [← es]
        split <;> split <;> omega
    refine ⟨by simp; omega, got_for (fun i env cs => ∃ y1 y2 y3 y4 y5 y6 y7 y8 y9 y10 : Option D, env = [some (.fro (ns.map .int)), y1, y2, y3, y4, y5, y6, y7, y8, y9, y10]) ⟨none, none, none, none, none, none, none, none, none, none, rfl⟩ (fun _ _ _ _ _ => rfl) (fun i x env cs hx hI => ?_) fun env cs hI => ?_⟩
    · obtain ⟨y1, y2, y3, y4, y5, y6, y7, y8, y9, y10, rfl⟩ := hI
      obtain ⟨hi, rfl⟩ := rng_at hx
      simp [-got_make']
      rw [hand_eq]
      refine (hand_ok (by omega)).mono fun r hr => ?_
      obtain ⟨a, s, rfl, h1, h2, h3⟩ := hr
      have H1 := Hs.init (cs := cs) h1 h2 h3 (c := 0) rfl
      simp [-got_make']
      rw [take_eq]
      refine (take_ok H1 (m := 5) (by omega) (by omega) (by omega)).mono fun r hr => ?_
      obtain ⟨d, cs2, rfl, hd, H2⟩ := hr
      obtain ⟨N, eN⟩ : ∃ N, N = 8 + d := ⟨_, rfl⟩
      have ec : (8 : Int) + (d : Int) = (N : Int) := by omega
      simp [ec, -got_make']
      refine (take_ok H2 (m := 9) (by omega) (by omega) (by omega)).mono fun r hr => ?_
      obtain ⟨d2, cs3, rfl, hd2, H3⟩ := hr
      obtain ⟨n, en⟩ : ∃ n, n = N + d2 := ⟨_, rfl⟩
      have ec2 : (N : Int) + (d2 : Int) = (n : Int) := by omega
      simp [ec2, -got_make']
      rw [turning_eq]
      refine (turning_ok H3 (n := n) (by omega) (by omega)).mono fun r hr => ?_
      obtain ⟨p, cs4, rfl, hp, H4⟩ := hr
      have pl : p.length = n := by rw [hp.length_eq, List.length_range]
      obtain ⟨st, est⟩ : ∃ st, st = p.take N := ⟨_, rfl⟩
      have stl : st.length = N := by rw [est, List.length_take]; omega
      have stn : st.Nodup := by rw [est]; exact (hp.nodup_iff.mpr List.nodup_range).sublist (List.take_sublist _ _)
      have stlt : ∀ x ∈ st, x < n := fun x hx => by
        rw [est] at hx
        exact List.mem_range.mp (hp.subset ((List.take_subset _ _) hx))
      have e1 : cut (dis p) none (some (N : Int)) = dis st := by rw [cut_to (by rw [List.length_map]; omega), est, dis, dis, List.map_take]
      have e2 := sortD_dis (l := st) (by omega)
      have e3 : cut (dis st) (some (1 : Int)) none = dis (st.drop 1) := by
        have := cut_from (xs := dis st) (l := 1) (by rw [List.length_map]; omega)
        rw [show ((1 : Nat) : Int) = 1 from rfl] at this
        rw [this, dis, dis, List.map_drop]
      have e4 : cut (dis st) none (some (1 : Int)) = dis (st.take 1) := by
        have := cut_to (xs := dis st) (j := 1) (by rw [List.length_map]; omega)
        rw [show ((1 : Nat) : Int) = 1 from rfl] at this
        rw [this, dis, dis, List.map_take]
      have e5 : cut (dis st) none (some (2 : Int)) = dis (st.take 2) := by
        have := cut_to (xs := dis st) (j := 2) (by rw [List.length_map]; omega)
        rw [show ((2 : Nat) : Int) = 2 from rfl] at this
        rw [this, dis, dis, List.map_take]
      obtain ⟨a0, a1, rs, ers⟩ : ∃ a0 a1 rs, st = a0 :: a1 :: rs := by
        match st, stl with
        | [], h => simp at h; omega
        | [_], h => simp at h; omega
        | a0 :: a1 :: rs, _ => exact ⟨a0, a1, rs, rfl⟩
      have g0 : st[0]? = some a0 := by rw [ers]; rfl
      have g1 : st[1]? = some a1 := by rw [ers]; rfl
      have n01 : a0 ≠ a1 := by
        rw [ers] at stn
        intro e
        subst e
        simp at stn
      
      have pv1 : (st.drop 1 ++ st.take 1).Perm st := by
        have := List.perm_append_comm (l₁ := st.drop 1) (l₂ := st.take 1)
        rwa [List.take_append_drop] at this
      obtain ⟨m1, m1a, m1b⟩ := ex_made (n := n) stn stlt pv1
      have pv2 : [a1, a0].Perm (st.take 2) := by
        rw [ers]
        exact List.Perm.swap _ _ _
      have t2n : (st.take 2).Nodup := stn.sublist (List.take_sublist _ _)
      obtain ⟨m2, m2a, m2b⟩ := ex_made (n := n) t2n (fun x hx => stlt x ((List.take_subset _ _) hx)) pv2
      have gen := loop_gen (n := n) stn stlt (m1 := m1) (m2 := m2) g0 g1 (fun i a b ha hb => by
        refine m1a i a b ha ?_
        have hil := (List.getElem?_eq_some_iff.mp hb).1
        rw [List.getElem?_append_left (by rw [List.length_drop]; omega), List.getElem?_drop, Nat.add_comm]
        exact hb) (fun x hx => m1b x hx) fun x => by
          have t2 : st.take 2 = [a0, a1] := by rw [ers]; rfl
          unfold Pm.swf
          by_cases h0 : x = a0
          · rw [if_pos h0, h0]
            exact m2a 0 a0 a1 (by rw [t2]; rfl) rfl
          · rw [if_neg h0]
            by_cases h1 : x = a1
            · rw [if_pos h1, h1]
              exact m2a 1 a1 a0 (by rw [t2]; rfl) rfl
            · rw [if_neg h1]
              exact m2b x (by rw [t2]; simp [h0, h1])
      have wr : (srt st).Pairwise (· < ·) := srt_rise stn
      have wp := srt_perm st
      have wl : (srt st).length = N := by rw [wp.length_eq, stl]
      generalize ew : srt st = w at *
      have eback : ((dis st).take 2).reverse = dis [a1, a0] := by rw [ers]; rfl
      have er : rng 2 ((N : Int) + 1) = rng 2 (2 + ((N - 1 : Nat) : Int)) := by congr 1; omega
      have stl2 : (dis st).length = N := by rw [List.length_map, stl]
      have N1 : (1 : Int) < (N : Int) := by omega
      obtain ⟨D1, eD1⟩ : ∃ D1, D1 = dis st := ⟨_, rfl⟩
      rw [← eD1] at e1 e2 e3 e4 e5 eback stl2
      simp [e1, e2, -got_make']
      refine ⟨by unfold okR; simp; omega, ?_⟩
      rw [er]
      refine got_for (fun j env cs' => ∃ (y8 : Option D), env = [some (.fro (ns.map .int)), some (di i), some (.cell cs.length), some (di N), some (di n), some (.lst D1), some (dl w), some (di (fac (j + 1))), y8, y9, y10] ∧ cs' = cs4)
        ⟨y8, rfl, rfl⟩ (fun _ _ _ _ _ => rfl) (fun j x env cs' hx hI => ?_) fun env cs' hI => ?_
      · obtain ⟨y8, rfl, rfl⟩ := hI
        obtain ⟨hj, rfl⟩ := rng_get hx
        have l1 := pow_log (fac_small (m := j + 1) (by omega)) (by omega)
        have l2 : ((2 : Int) + j).natAbs.log2 < 128 := log_lt_i (by omega) (by omega)
        simp [-got_make']
        refine ⟨by omega, ?_⟩
        show _ = (((j + 1 + 1) * fac (j + 1) : Nat) : Int)
        rw [Int.natCast_mul, Int.mul_comm]
        congr 1
        omega
      · obtain ⟨y8, rfl, rfl⟩ := hI
        rw [rng_len2, show N - 1 + 1 = N by omega]
        have hn60 : n ≤ 60 := by omega
        obtain ⟨D2, eD2⟩ : ∃ D2, D2 = dis (st.drop 1 ++ st.take 1) := ⟨_, rfl⟩
        have eD2' : dis (st.drop 1) ++ dis (st.take 1) = D2 := by rw [eD2, dis, dis, dis, List.map_append]
        have l3 : (dis (st.drop 1)).length + (dis (st.take 1)).length ≤ 16777216 := by simp; omega
        have mk1 : ∀ {Q : R D → Prop}, Q (.v (pD m1) cs') → got (popped f__law_made [di n, .lst D1, .lst D2] cs') Q := fun h => by
          rw [eD1, eD2]
          exact made_ok m1 hn60 pv1.length_eq m1a m1b stlt h
        have mk2 : ∀ {Q : R D → Prop}, Q (.v (pD m2) cs') → got (popped f__law_made [di n, .lst (dis (st.take 2)), .lst (dis [a1, a0])] cs') Q := fun h => by
          exact made_ok m2 hn60 pv2.length_eq m2a m2b (fun x hx => stlt x ((List.take_subset _ _) hx)) h
        obtain ⟨D3, eD3⟩ : ∃ D3, D3 = dis (st.drop 1) := ⟨_, rfl⟩
        obtain ⟨D4, eD4⟩ : ∃ D4, D4 = dis (st.take 1) := ⟨_, rfl⟩
        obtain ⟨D5, eD5⟩ : ∃ D5, D5 = dis (st.take 2) := ⟨_, rfl⟩
        obtain ⟨D6, eD6⟩ : ∃ D6, D6 = dis [a1, a0] := ⟨_, rfl⟩
        rw [← eD3] at e3 eD2' l3
        rw [← eD4] at e4 eD2' l3
        rw [← eD5] at e5 mk2
        rw [← eD6] at eback mk2
        simp [e3, e4, eD2', l3, -got_make']
        refine mk1 ?_
        simp [e5, stl2, N1, eback, -got_make']
        refine mk2 ?_
        simp [-got_make']
        refine group_new (n := n) (ms := [m1, m2]) (by omega) hn60 (by simp) fun c G => ?_
        have hg : GAt (cs' ++ grpL cs'.length [m1, m2] c) cs'.length [m1, m2] c := by
          have := grp_at (cs := cs') (own := []) (ms := [m1, m2]) (c := c)
          rwa [List.append_nil] at this
        have H5 := (H4.more (grpL cs'.length [m1, m2] c)).refl
        have kg : cs.length < cs'.length := by
          have := H4.len
          rw [this]
          simp
        have A : AllOf c w := ⟨wr, fun x hx => stlt x (wp.subset hx), G.ok, G.mul, fun g => by
          rw [G.gen (by omega) g, gen g]
          unfold Sy
          exact forall_congr' fun x => by
            have := wp.mem_iff (a := x)
            dsimp only
            rw [this]⟩
        generalize cs' ++ grpL cs'.length [m1, m2] c = cs5 at *
        generalize cs'.length = g at *
        simp
        have w60 : w.length ≤ 60 := by omega
        have fw : fac N = fac w.length := by rw [wl]
        rw [fw]
        refine numbers_ok H5 hg kg (by omega) hn60 A w60 (by omega) (by omega) fun cs6 H6 => ?_
        have hg6 := hg.hs H6 (.inl kg)
        simp
        refine lifts_ok H6 hg6 kg (by omega) hn60 A w60 (by omega) (by omega) fun cs7 H7 => ?_
        have hg7 := hg.hs H7 (.inl kg)
        simp
        refine paper_ok hg7 G (by omega) hn60 (by omega) A w60 ?_
        simp
        refine recipe_ok H7 hg7 G kg (by omega) hn60 (by omega) A w60 (by omega) fun cs8 H8 => ?_
        simp
    · obtain ⟨y1, y2, y3, y4, y5, y6, y7, y8, y9, y10, rfl⟩ := hI
      simp
  obtain ⟨r, e, cs, rfl⟩ := this
  exact ⟨cs, e⟩
end k91
end
section
set_option Elab.async false
set_option linter.all false
set_option maxRecDepth 100000
set_option maxHeartbeats 4000000
namespace k91
open PySem PySem.Spec PyProof.Rows L2 Mi Br
open tb (f_Chain___init__ b_Chain___init__ f_Chain_add b_Chain_add f_Chain_grown b_Chain_grown f_Chain_has b_Chain_has f_Chain_least b_Chain_least f_Chain_line_of b_Chain_line_of f_Chain_noted b_Chain_noted f_Chain_rest b_Chain_rest f_Chain_size b_Chain_size f_Group___init__ b_Group___init__ f_Group_base b_Group_base f_Group_ground b_Group_ground f_Group_has b_Group_has f_Group_least b_Group_least f_Group_lift b_Group_lift f_Group_nth b_Group_nth f_Group_paper b_Group_paper f_Group_place_of b_Group_place_of f_Group_recipe b_Group_recipe f_Group_ring_at b_Group_ring_at f_Group_size b_Group_size f_Group_told b_Group_told f_Step___init__ b_Step___init__ f_back b_back f_behind b_behind f_is_of b_is_of f_is_turning b_is_turning f_is_whole b_is_whole f_lines_named b_lines_named f_looked_makers b_looked_makers f_still b_still f_trimmed b_trimmed)
def topS (i : Nat) : Stmt := PySem.Challenge.pw_turnbase_k91_windows_of_any_size.main.body.getD i (.Pass ⟨0, 0, 0, 0⟩)
theorem sc_is_whole : FnScope ["thing"] ["thing"] (defScope (topS 3)) := ⟨rfl, rfl, rfl, by decide +kernel, rfl, by decide +kernel, by decide +kernel⟩
theorem sc_is_turning : FnScope ["thing", "seen", "to"] ["thing"] (defScope (topS 4)) := ⟨rfl, rfl, rfl, by decide +kernel, rfl, by decide +kernel, by decide +kernel⟩
theorem sc_still : FnScope ["many"] ["many"] (defScope (topS 5)) := ⟨rfl, rfl, rfl, by decide +kernel, rfl, by decide +kernel, by decide +kernel⟩
theorem sc_behind : FnScope ["one", "other", "to"] ["one", "other"] (defScope (topS 6)) := ⟨rfl, rfl, rfl, by decide +kernel, rfl, by decide +kernel, by decide +kernel⟩
theorem sc_back : FnScope ["one", "made", "place", "to"] ["one"] (defScope (topS 7)) := ⟨rfl, rfl, rfl, by decide +kernel, rfl, by decide +kernel, by decide +kernel⟩
theorem sc_Step___init__ : FnScope ["self", "place", "many"] ["self", "place", "many"] (defScope (inClass (topS 9) 0)) := ⟨rfl, rfl, rfl, by decide +kernel, rfl, by decide +kernel, by decide +kernel⟩
theorem sc_Chain___init__ : FnScope ["self", "many", "place"] ["self", "many"] (defScope (inClass (topS 10) 0)) := ⟨rfl, rfl, rfl, by decide +kernel, rfl, by decide +kernel, by decide +kernel⟩
theorem sc_Chain_noted : FnScope ["self", "line"] ["self", "line"] (defScope (inClass (topS 10) 1)) := ⟨rfl, rfl, rfl, by decide +kernel, rfl, by decide +kernel, by decide +kernel⟩
theorem sc_Chain_line_of : FnScope ["self", "made", "ahead", "last"] ["self", "made"] (defScope (inClass (topS 10) 2)) := ⟨rfl, rfl, rfl, by decide +kernel, rfl, by decide +kernel, by decide +kernel⟩
theorem sc_Chain_rest : FnScope ["self", "one", "start", "step", "to"] ["self", "one", "start"] (defScope (inClass (topS 10) 3)) := ⟨rfl, rfl, rfl, by decide +kernel, rfl, by decide +kernel, by decide +kernel⟩
theorem sc_Chain_has : FnScope ["self", "one"] ["self", "one"] (defScope (inClass (topS 10) 4)) := ⟨rfl, rfl, rfl, by decide +kernel, rfl, by decide +kernel, by decide +kernel⟩
theorem sc_Chain_size : FnScope ["self", "found", "step"] ["self"] (defScope (inClass (topS 10) 5)) := ⟨rfl, rfl, rfl, by decide +kernel, rfl, by decide +kernel, by decide +kernel⟩
theorem sc_Chain_least : FnScope ["self", "one", "start", "step", "best", "place"] ["self", "one", "start"] (defScope (inClass (topS 10) 6)) := ⟨rfl, rfl, rfl, by decide +kernel, rfl, by decide +kernel, by decide +kernel⟩
theorem sc_Chain_grown : FnScope ["self", "step", "one", "line", "pairs", "to", "tasks", "at", "number", "lift", "lift_line", "maker", "maker_line", "made", "goal", "k", "last", "last_line"] ["self", "step", "one", "line"] (defScope (inClass (topS 10) 8)) := ⟨rfl, rfl, rfl, by decide +kernel, rfl, by decide +kernel, by decide +kernel⟩
theorem sc_Chain_add : FnScope ["self", "one", "line", "tasks", "start", "found", "made"] ["self", "one", "line"] (defScope (inClass (topS 10) 7)) := ⟨rfl, rfl, rfl, by decide +kernel, rfl, by decide +kernel, by decide +kernel⟩
theorem sc_lines_named : FnScope ["line"] ["line"] (defScope (topS 18)) := ⟨rfl, rfl, rfl, by decide +kernel, rfl, by decide +kernel, by decide +kernel⟩
theorem sc_trimmed : FnScope ["lines", "needed", "k", "at", "number", "numbers", "found", "line"] ["lines"] (defScope (topS 19)) := ⟨rfl, rfl, rfl, by decide +kernel, rfl, by decide +kernel, by decide +kernel⟩
theorem sc_is_of : FnScope ["thing", "many"] ["thing", "many"] (defScope (topS 23)) := ⟨rfl, rfl, rfl, by decide +kernel, rfl, by decide +kernel, by decide +kernel⟩
theorem sc_looked_makers : FnScope ["many", "makers", "one"] ["many", "makers"] (defScope (topS 24)) := ⟨rfl, rfl, rfl, by decide +kernel, rfl, by decide +kernel, by decide +kernel⟩
theorem sc_Group___init__ : FnScope ["self", "many", "makers", "k", "step"] ["self", "many", "makers"] (defScope (inClass (topS 25) 0)) := ⟨rfl, rfl, rfl, by decide +kernel, rfl, by decide +kernel, by decide +kernel⟩
theorem sc_Group_told : FnScope ["self"] ["self"] (defScope (inClass (topS 25) 1)) := ⟨rfl, rfl, rfl, by decide +kernel, rfl, by decide +kernel, by decide +kernel⟩
theorem sc_Group_size : FnScope ["self"] ["self"] (defScope (inClass (topS 25) 2)) := ⟨rfl, rfl, rfl, by decide +kernel, rfl, by decide +kernel, by decide +kernel⟩
theorem sc_Group_has : FnScope ["self", "thing"] ["self", "thing"] (defScope (inClass (topS 25) 3)) := ⟨rfl, rfl, rfl, by decide +kernel, rfl, by decide +kernel, by decide +kernel⟩
theorem sc_Group_base : FnScope ["self", "step"] ["self"] (defScope (inClass (topS 25) 4)) := ⟨rfl, rfl, rfl, by decide +kernel, rfl, by decide +kernel, by decide +kernel⟩
theorem sc_Group_ring_at : FnScope ["self", "place"] ["self", "place"] (defScope (inClass (topS 25) 5)) := ⟨rfl, rfl, rfl, by decide +kernel, rfl, by decide +kernel, by decide +kernel⟩
theorem sc_Group_lift : FnScope ["self", "place", "to", "lifts"] ["self", "place", "to"] (defScope (inClass (topS 25) 6)) := ⟨rfl, rfl, rfl, by decide +kernel, rfl, by decide +kernel, by decide +kernel⟩
theorem sc_Group_ground : FnScope ["self", "to", "place"] ["self"] (defScope (inClass (topS 25) 7)) := ⟨rfl, rfl, rfl, by decide +kernel, rfl, by decide +kernel, by decide +kernel⟩
theorem sc_Group_least : FnScope ["self", "thing"] ["self", "thing"] (defScope (inClass (topS 25) 8)) := ⟨rfl, rfl, rfl, by decide +kernel, rfl, by decide +kernel, by decide +kernel⟩
theorem sc_Group_nth : FnScope ["self", "k", "rest", "found", "step", "number", "rising", "to", "at"] ["self", "k"] (defScope (inClass (topS 25) 9)) := ⟨rfl, rfl, rfl, by decide +kernel, rfl, by decide +kernel, by decide +kernel⟩
theorem sc_Group_place_of : FnScope ["self", "thing", "rest", "found", "number", "step", "goal", "at", "to"] ["self", "thing"] (defScope (inClass (topS 25) 10)) := ⟨rfl, rfl, rfl, by decide +kernel, rfl, by decide +kernel, by decide +kernel⟩
theorem sc_Group_recipe : FnScope ["self", "thing", "used", "step", "to", "lift", "line", "lines", "last"] ["self", "thing"] (defScope (inClass (topS 25) 12)) := ⟨rfl, rfl, rfl, by decide +kernel, rfl, by decide +kernel, by decide +kernel⟩
theorem sc_Group_paper : FnScope ["self", "steps", "step", "to"] ["self"] (defScope (inClass (topS 25) 13)) := ⟨rfl, rfl, rfl, by decide +kernel, rfl, by decide +kernel, by decide +kernel⟩
theorem sc__law_hand : FnScope ["script", "k", "cell", "far", "seed"] ["script", "k"] (defScope (topS 27)) := ⟨rfl, rfl, rfl, by decide +kernel, rfl, by decide +kernel, by decide +kernel⟩
theorem sc__law_take : FnScope ["hand", "many", "digit"] ["hand", "many"] (defScope (topS 28)) := ⟨rfl, rfl, rfl, by decide +kernel, rfl, by decide +kernel, by decide +kernel⟩
theorem sc__law_turning : FnScope ["hand", "many", "found", "k"] ["hand", "many"] (defScope (topS 29)) := ⟨rfl, rfl, rfl, by decide +kernel, rfl, by decide +kernel, by decide +kernel⟩
theorem sc__law_behind : FnScope ["one", "other", "to"] ["one", "other"] (defScope (topS 30)) := ⟨rfl, rfl, rfl, by decide +kernel, rfl, by decide +kernel, by decide +kernel⟩
theorem sc__law_back : FnScope ["one", "row", "place", "to"] ["one"] (defScope (topS 31)) := ⟨rfl, rfl, rfl, by decide +kernel, rfl, by decide +kernel, by decide +kernel⟩
theorem sc__law_worked : FnScope ["lines", "makers", "many", "found", "line"] ["lines", "makers", "many"] (defScope (topS 32)) := ⟨rfl, rfl, rfl, by decide +kernel, rfl, by decide +kernel, by decide +kernel⟩
theorem sc__law_made : FnScope ["many", "window", "values", "row", "place", "to"] ["many", "window", "values"] (defScope (topS 33)) := ⟨rfl, rfl, rfl, by decide +kernel, rfl, by decide +kernel, by decide +kernel⟩
theorem sc__law_by_number : FnScope ["window", "number", "left", "found", "rest", "k"] ["window", "number"] (defScope (topS 34)) := ⟨rfl, rfl, rfl, by decide +kernel, rfl, by decide +kernel, by decide +kernel⟩
theorem sc__law_refused : FnScope ["group", "way", "thing", "found"] ["group", "way", "thing"] (defScope (topS 35)) := ⟨rfl, rfl, rfl, by decide +kernel, rfl, by decide +kernel, by decide +kernel⟩
theorem sc__law_drawn_below : FnScope ["hand", "whole", "found", "turn"] ["hand", "whole"] (defScope (topS 37)) := ⟨rfl, rfl, rfl, by decide +kernel, rfl, by decide +kernel, by decide +kernel⟩
theorem sc__law_numbers_right : FnScope ["hand", "group", "window", "whole", "turn", "number", "due"] ["hand", "group", "window", "whole"] (defScope (topS 36)) := ⟨rfl, rfl, rfl, by decide +kernel, rfl, by decide +kernel, by decide +kernel⟩
theorem sc__law_lift : FnScope ["group", "window", "i", "j"] ["group", "window", "i", "j"] (defScope (topS 38)) := ⟨rfl, rfl, rfl, by decide +kernel, rfl, by decide +kernel, by decide +kernel⟩
theorem sc__law_lifts_right : FnScope ["hand", "group", "window", "turn", "one", "values", "place", "due", "to", "ground", "i", "j"] ["hand", "group", "window"] (defScope (topS 39)) := ⟨rfl, rfl, rfl, by decide +kernel, rfl, by decide +kernel, by decide +kernel⟩
theorem sc__law_paper_right : FnScope ["group", "window", "makers", "lines", "steps", "made", "place", "lifts", "k", "to", "line"] ["group", "window", "makers"] (defScope (topS 40)) := ⟨rfl, rfl, rfl, by decide +kernel, rfl, by decide +kernel, by decide +kernel⟩
theorem sc__law_recipe_right : FnScope ["hand", "group", "window", "makers", "whole", "due", "lines", "named", "line", "k"] ["hand", "group", "window", "makers", "whole"] (defScope (topS 41)) := ⟨rfl, rfl, rfl, by decide +kernel, rfl, by decide +kernel, by decide +kernel⟩
theorem sc_law : FnScope ["script", "turn", "hand", "n", "many", "strewn", "window", "whole", "k", "makers", "group"] ["script"] (defScope (topS 42)) := ⟨rfl, rfl, rfl, by decide +kernel, rfl, by decide +kernel, by decide +kernel⟩
structure Facts (K : PySem.W.Frag) (T : Br.Tab) (mg : Str → Option Value) where
  m_abs : mg "abs" = none
  m_bool : mg "bool" = none
  m_divmod : mg "divmod" = none
  m_enumerate : mg "enumerate" = none
  m_int : mg "int" = none
  m_isinstance : mg "isinstance" = none
  m_len : mg "len" = none
  m_list : mg "list" = none
  m_max : mg "max" = none
  m_min : mg "min" = none
  m_range : mg "range" = none
  m_reversed : mg "reversed" = none
  m_sorted : mg "sorted" = none
  m_tuple : mg "tuple" = none
  m_zip : mg "zip" = none
  t_MOST : Tok
  c_MOST : mg "MOST" = some (.int 60 t_MOST)
  t_MOST_MAKERS : Tok
  c_MOST_MAKERS : mg "MOST_MAKERS" = some (.int 200 t_MOST_MAKERS)
  t_MOST_PLACES : Tok
  c_MOST_PLACES : mg "MOST_PLACES" = some (.int 60 t_MOST_PLACES)
  C_Step : Addr
  gC_Step : mg "Step" = some (.ref C_Step)
  oC_Step : Br.ObjK K T 0 C_Step ["place", "lifts", "makers"]
  C_Chain : Addr
  gC_Chain : mg "Chain" = some (.ref C_Chain)
  oC_Chain : Br.ObjK K T 1 C_Chain ["many", "lines", "steps"]
  C_Group : Addr
  gC_Group : mg "Group" = some (.ref C_Group)
  oC_Group : Br.ObjK K T 7 C_Group ["made", "many", "chain", "steps"]
  C_NoGroup : Addr
  gX_NoGroup : mg "NoGroup" = some (.ref C_NoGroup)
  tX_NoGroup : T 4 = some (C_NoGroup, [])
  xX_NoGroup : PySem.W.excIn K C_NoGroup [.type "ValueError", .type "Exception", .type "BaseException", .type "object"] "ValueError.__new__" = true
  kX_NoGroup : PySem.W.keepIn K (.ref C_NoGroup) = true
  bX_NoGroup : PySem.W.subIn K (.ref C_NoGroup) (.type "BaseException") = some true
  yX_NoGroup : PySem.W.typeIn K (.ref C_NoGroup) = some (.type "type")
  C_NoNumber : Addr
  gX_NoNumber : mg "NoNumber" = some (.ref C_NoNumber)
  tX_NoNumber : T 5 = some (C_NoNumber, [])
  xX_NoNumber : PySem.W.excIn K C_NoNumber [.type "ValueError", .type "Exception", .type "BaseException", .type "object"] "ValueError.__new__" = true
  kX_NoNumber : PySem.W.keepIn K (.ref C_NoNumber) = true
  bX_NoNumber : PySem.W.subIn K (.ref C_NoNumber) (.type "BaseException") = some true
  yX_NoNumber : PySem.W.typeIn K (.ref C_NoNumber) = some (.type "type")
  C_NoTurning : Addr
  gX_NoTurning : mg "NoTurning" = some (.ref C_NoTurning)
  tX_NoTurning : T 3 = some (C_NoTurning, [])
  xX_NoTurning : PySem.W.excIn K C_NoTurning [.type "ValueError", .type "Exception", .type "BaseException", .type "object"] "ValueError.__new__" = true
  kX_NoTurning : PySem.W.keepIn K (.ref C_NoTurning) = true
  bX_NoTurning : PySem.W.subIn K (.ref C_NoTurning) (.type "BaseException") = some true
  yX_NoTurning : PySem.W.typeIn K (.ref C_NoTurning) = some (.type "type")
  C_NotIn : Addr
  gX_NotIn : mg "NotIn" = some (.ref C_NotIn)
  tX_NotIn : T 6 = some (C_NotIn, [])
  xX_NotIn : PySem.W.excIn K C_NotIn [.type "ValueError", .type "Exception", .type "BaseException", .type "object"] "ValueError.__new__" = true
  kX_NotIn : PySem.W.keepIn K (.ref C_NotIn) = true
  bX_NotIn : PySem.W.subIn K (.ref C_NotIn) (.type "BaseException") = some true
  yX_NotIn : PySem.W.typeIn K (.ref C_NotIn) = some (.type "type")
  C_TurnError : Addr
  gX_TurnError : mg "TurnError" = some (.ref C_TurnError)
  tX_TurnError : T 2 = some (C_TurnError, [])
  xX_TurnError : PySem.W.excIn K C_TurnError [.type "ValueError", .type "Exception", .type "BaseException", .type "object"] "ValueError.__new__" = true
  kX_TurnError : PySem.W.keepIn K (.ref C_TurnError) = true
  bX_TurnError : PySem.W.subIn K (.ref C_TurnError) (.type "BaseException") = some true
  yX_TurnError : PySem.W.typeIn K (.ref C_TurnError) = some (.type "type")
  ex_NoNumber : Br.ExL K T (.ref C_NoNumber) exl_NoNumber
  ex_NotIn : Br.ExL K T (.ref C_NotIn) exl_NotIn
  ex_TurnError : Br.ExL K T (.ref C_TurnError) exl_TurnError
  a_is_whole : Addr
  fd_is_whole : FuncData
  F_is_whole : Fun K "is_whole" "is_whole" (topS 3) a_is_whole fd_is_whole
  b_is_whole : Binds K fd_is_whole ["thing"] []
  g_is_whole : mg "is_whole" = some (.ref a_is_whole)
  a_is_turning : Addr
  fd_is_turning : FuncData
  F_is_turning : Fun K "is_turning" "is_turning" (topS 4) a_is_turning fd_is_turning
  b_is_turning : Binds K fd_is_turning ["thing"] []
  g_is_turning : mg "is_turning" = some (.ref a_is_turning)
  a_still : Addr
  fd_still : FuncData
  F_still : Fun K "still" "still" (topS 5) a_still fd_still
  b_still : Binds K fd_still ["many"] []
  g_still : mg "still" = some (.ref a_still)
  a_behind : Addr
  fd_behind : FuncData
  F_behind : Fun K "behind" "behind" (topS 6) a_behind fd_behind
  b_behind : Binds K fd_behind ["one", "other"] []
  g_behind : mg "behind" = some (.ref a_behind)
  a_back : Addr
  fd_back : FuncData
  F_back : Fun K "back" "back" (topS 7) a_back fd_back
  b_back : Binds K fd_back ["one"] []
  g_back : mg "back" = some (.ref a_back)
  a_Step___init__ : Addr
  fd_Step___init__ : FuncData
  F_Step___init__ : Fun K "__init__" "Step.__init__" (inClass (topS 9) 0) a_Step___init__ fd_Step___init__
  b_Step___init__ : Binds K fd_Step___init__ ["self", "place", "many"] []
  mk_Step : Mk K C_Step a_Step___init__
  a_Chain___init__ : Addr
  fd_Chain___init__ : FuncData
  F_Chain___init__ : Fun K "__init__" "Chain.__init__" (inClass (topS 10) 0) a_Chain___init__ fd_Chain___init__
  b_Chain___init__ : Binds K fd_Chain___init__ ["self", "many"] []
  mk_Chain : Mk K C_Chain a_Chain___init__
  a_Chain_noted : Addr
  fd_Chain_noted : FuncData
  F_Chain_noted : Fun K "noted" "Chain.noted" (inClass (topS 10) 1) a_Chain_noted fd_Chain_noted
  b_Chain_noted : Binds K fd_Chain_noted ["self", "line"] []
  mm_Chain_noted : Meth K C_Chain "noted" a_Chain_noted
  a_Chain_line_of : Addr
  fd_Chain_line_of : FuncData
  F_Chain_line_of : Fun K "line_of" "Chain.line_of" (inClass (topS 10) 2) a_Chain_line_of fd_Chain_line_of
  b_Chain_line_of : Binds K fd_Chain_line_of ["self", "made"] []
  mm_Chain_line_of : Meth K C_Chain "line_of" a_Chain_line_of
  a_Chain_rest : Addr
  fd_Chain_rest : FuncData
  F_Chain_rest : Fun K "rest" "Chain.rest" (inClass (topS 10) 3) a_Chain_rest fd_Chain_rest
  b_Chain_rest : Binds K fd_Chain_rest ["self", "one", "start"] []
  mm_Chain_rest : Meth K C_Chain "rest" a_Chain_rest
  a_Chain_has : Addr
  fd_Chain_has : FuncData
  F_Chain_has : Fun K "has" "Chain.has" (inClass (topS 10) 4) a_Chain_has fd_Chain_has
  b_Chain_has : Binds K fd_Chain_has ["self", "one"] []
  mm_Chain_has : Meth K C_Chain "has" a_Chain_has
  a_Chain_size : Addr
  fd_Chain_size : FuncData
  F_Chain_size : Fun K "size" "Chain.size" (inClass (topS 10) 5) a_Chain_size fd_Chain_size
  b_Chain_size : Binds K fd_Chain_size ["self"] []
  mm_Chain_size : Meth K C_Chain "size" a_Chain_size
  a_Chain_least : Addr
  fd_Chain_least : FuncData
  F_Chain_least : Fun K "least" "Chain.least" (inClass (topS 10) 6) a_Chain_least fd_Chain_least
  b_Chain_least : Binds K fd_Chain_least ["self", "one", "start"] []
  mm_Chain_least : Meth K C_Chain "least" a_Chain_least
  a_Chain_grown : Addr
  fd_Chain_grown : FuncData
  F_Chain_grown : Fun K "grown" "Chain.grown" (inClass (topS 10) 8) a_Chain_grown fd_Chain_grown
  b_Chain_grown : Binds K fd_Chain_grown ["self", "step", "one", "line"] []
  mm_Chain_grown : Meth K C_Chain "grown" a_Chain_grown
  a_Chain_add : Addr
  fd_Chain_add : FuncData
  F_Chain_add : Fun K "add" "Chain.add" (inClass (topS 10) 7) a_Chain_add fd_Chain_add
  b_Chain_add : Binds K fd_Chain_add ["self", "one", "line"] []
  mm_Chain_add : Meth K C_Chain "add" a_Chain_add
  a_lines_named : Addr
  fd_lines_named : FuncData
  F_lines_named : Fun K "lines_named" "lines_named" (topS 18) a_lines_named fd_lines_named
  b_lines_named : Binds K fd_lines_named ["line"] []
  g_lines_named : mg "lines_named" = some (.ref a_lines_named)
  a_trimmed : Addr
  fd_trimmed : FuncData
  F_trimmed : Fun K "trimmed" "trimmed" (topS 19) a_trimmed fd_trimmed
  b_trimmed : Binds K fd_trimmed ["lines"] []
  g_trimmed : mg "trimmed" = some (.ref a_trimmed)
  a_is_of : Addr
  fd_is_of : FuncData
  F_is_of : Fun K "is_of" "is_of" (topS 23) a_is_of fd_is_of
  b_is_of : Binds K fd_is_of ["thing", "many"] []
  g_is_of : mg "is_of" = some (.ref a_is_of)
  a_looked_makers : Addr
  fd_looked_makers : FuncData
  F_looked_makers : Fun K "looked_makers" "looked_makers" (topS 24) a_looked_makers fd_looked_makers
  b_looked_makers : Binds K fd_looked_makers ["many", "makers"] []
  g_looked_makers : mg "looked_makers" = some (.ref a_looked_makers)
  a_Group___init__ : Addr
  fd_Group___init__ : FuncData
  F_Group___init__ : Fun K "__init__" "Group.__init__" (inClass (topS 25) 0) a_Group___init__ fd_Group___init__
  b_Group___init__ : Binds K fd_Group___init__ ["self", "many", "makers"] []
  mk_Group : Mk K C_Group a_Group___init__
  a_Group_told : Addr
  fd_Group_told : FuncData
  F_Group_told : Fun K "told" "Group.told" (inClass (topS 25) 1) a_Group_told fd_Group_told
  b_Group_told : Binds K fd_Group_told ["self"] []
  mm_Group_told : Meth K C_Group "told" a_Group_told
  a_Group_size : Addr
  fd_Group_size : FuncData
  F_Group_size : Fun K "size" "Group.size" (inClass (topS 25) 2) a_Group_size fd_Group_size
  b_Group_size : Binds K fd_Group_size ["self"] []
  mm_Group_size : Meth K C_Group "size" a_Group_size
  a_Group_has : Addr
  fd_Group_has : FuncData
  F_Group_has : Fun K "has" "Group.has" (inClass (topS 25) 3) a_Group_has fd_Group_has
  b_Group_has : Binds K fd_Group_has ["self", "thing"] []
  mm_Group_has : Meth K C_Group "has" a_Group_has
  a_Group_base : Addr
  fd_Group_base : FuncData
  F_Group_base : Fun K "base" "Group.base" (inClass (topS 25) 4) a_Group_base fd_Group_base
  b_Group_base : Binds K fd_Group_base ["self"] []
  mm_Group_base : Meth K C_Group "base" a_Group_base
  a_Group_ring_at : Addr
  fd_Group_ring_at : FuncData
  F_Group_ring_at : Fun K "ring_at" "Group.ring_at" (inClass (topS 25) 5) a_Group_ring_at fd_Group_ring_at
  b_Group_ring_at : Binds K fd_Group_ring_at ["self", "place"] []
  mm_Group_ring_at : Meth K C_Group "ring_at" a_Group_ring_at
  a_Group_lift : Addr
  fd_Group_lift : FuncData
  F_Group_lift : Fun K "lift" "Group.lift" (inClass (topS 25) 6) a_Group_lift fd_Group_lift
  b_Group_lift : Binds K fd_Group_lift ["self", "place", "to"] []
  mm_Group_lift : Meth K C_Group "lift" a_Group_lift
  a_Group_ground : Addr
  fd_Group_ground : FuncData
  F_Group_ground : Fun K "ground" "Group.ground" (inClass (topS 25) 7) a_Group_ground fd_Group_ground
  b_Group_ground : Binds K fd_Group_ground ["self"] []
  mm_Group_ground : Meth K C_Group "ground" a_Group_ground
  a_Group_least : Addr
  fd_Group_least : FuncData
  F_Group_least : Fun K "least" "Group.least" (inClass (topS 25) 8) a_Group_least fd_Group_least
  b_Group_least : Binds K fd_Group_least ["self", "thing"] []
  mm_Group_least : Meth K C_Group "least" a_Group_least
  a_Group_nth : Addr
  fd_Group_nth : FuncData
  F_Group_nth : Fun K "nth" "Group.nth" (inClass (topS 25) 9) a_Group_nth fd_Group_nth
  b_Group_nth : Binds K fd_Group_nth ["self", "k"] []
  mm_Group_nth : Meth K C_Group "nth" a_Group_nth
  a_Group_place_of : Addr
  fd_Group_place_of : FuncData
  F_Group_place_of : Fun K "place_of" "Group.place_of" (inClass (topS 25) 10) a_Group_place_of fd_Group_place_of
  b_Group_place_of : Binds K fd_Group_place_of ["self", "thing"] []
  mm_Group_place_of : Meth K C_Group "place_of" a_Group_place_of
  a_Group_recipe : Addr
  fd_Group_recipe : FuncData
  F_Group_recipe : Fun K "recipe" "Group.recipe" (inClass (topS 25) 12) a_Group_recipe fd_Group_recipe
  b_Group_recipe : Binds K fd_Group_recipe ["self", "thing"] []
  mm_Group_recipe : Meth K C_Group "recipe" a_Group_recipe
  a_Group_paper : Addr
  fd_Group_paper : FuncData
  F_Group_paper : Fun K "paper" "Group.paper" (inClass (topS 25) 13) a_Group_paper fd_Group_paper
  b_Group_paper : Binds K fd_Group_paper ["self"] []
  mm_Group_paper : Meth K C_Group "paper" a_Group_paper
  a__law_hand : Addr
  fd__law_hand : FuncData
  F__law_hand : Fun K "_law_hand" "_law_hand" (topS 27) a__law_hand fd__law_hand
  b__law_hand : Binds K fd__law_hand ["script", "k"] []
  g__law_hand : mg "_law_hand" = some (.ref a__law_hand)
  a__law_take : Addr
  fd__law_take : FuncData
  F__law_take : Fun K "_law_take" "_law_take" (topS 28) a__law_take fd__law_take
  b__law_take : Binds K fd__law_take ["hand", "many"] []
  g__law_take : mg "_law_take" = some (.ref a__law_take)
  a__law_turning : Addr
  fd__law_turning : FuncData
  F__law_turning : Fun K "_law_turning" "_law_turning" (topS 29) a__law_turning fd__law_turning
  b__law_turning : Binds K fd__law_turning ["hand", "many"] []
  g__law_turning : mg "_law_turning" = some (.ref a__law_turning)
  a__law_behind : Addr
  fd__law_behind : FuncData
  F__law_behind : Fun K "_law_behind" "_law_behind" (topS 30) a__law_behind fd__law_behind
  b__law_behind : Binds K fd__law_behind ["one", "other"] []
  g__law_behind : mg "_law_behind" = some (.ref a__law_behind)
  a__law_back : Addr
  fd__law_back : FuncData
  F__law_back : Fun K "_law_back" "_law_back" (topS 31) a__law_back fd__law_back
  b__law_back : Binds K fd__law_back ["one"] []
  g__law_back : mg "_law_back" = some (.ref a__law_back)
  a__law_worked : Addr
  fd__law_worked : FuncData
  F__law_worked : Fun K "_law_worked" "_law_worked" (topS 32) a__law_worked fd__law_worked
  b__law_worked : Binds K fd__law_worked ["lines", "makers", "many"] []
  g__law_worked : mg "_law_worked" = some (.ref a__law_worked)
  a__law_made : Addr
  fd__law_made : FuncData
  F__law_made : Fun K "_law_made" "_law_made" (topS 33) a__law_made fd__law_made
  b__law_made : Binds K fd__law_made ["many", "window", "values"] []
  g__law_made : mg "_law_made" = some (.ref a__law_made)
  a__law_by_number : Addr
  fd__law_by_number : FuncData
  F__law_by_number : Fun K "_law_by_number" "_law_by_number" (topS 34) a__law_by_number fd__law_by_number
  b__law_by_number : Binds K fd__law_by_number ["window", "number"] []
  g__law_by_number : mg "_law_by_number" = some (.ref a__law_by_number)
  a__law_refused : Addr
  fd__law_refused : FuncData
  F__law_refused : Fun K "_law_refused" "_law_refused" (topS 35) a__law_refused fd__law_refused
  b__law_refused : Binds K fd__law_refused ["group", "way", "thing"] []
  g__law_refused : mg "_law_refused" = some (.ref a__law_refused)
  a__law_drawn_below : Addr
  fd__law_drawn_below : FuncData
  F__law_drawn_below : Fun K "_law_drawn_below" "_law_drawn_below" (topS 37) a__law_drawn_below fd__law_drawn_below
  b__law_drawn_below : Binds K fd__law_drawn_below ["hand", "whole"] []
  g__law_drawn_below : mg "_law_drawn_below" = some (.ref a__law_drawn_below)
  a__law_numbers_right : Addr
  fd__law_numbers_right : FuncData
  F__law_numbers_right : Fun K "_law_numbers_right" "_law_numbers_right" (topS 36) a__law_numbers_right fd__law_numbers_right
  b__law_numbers_right : Binds K fd__law_numbers_right ["hand", "group", "window", "whole"] []
  g__law_numbers_right : mg "_law_numbers_right" = some (.ref a__law_numbers_right)
  a__law_lift : Addr
  fd__law_lift : FuncData
  F__law_lift : Fun K "_law_lift" "_law_lift" (topS 38) a__law_lift fd__law_lift
  b__law_lift : Binds K fd__law_lift ["group", "window", "i", "j"] []
  g__law_lift : mg "_law_lift" = some (.ref a__law_lift)
  a__law_lifts_right : Addr
  fd__law_lifts_right : FuncData
  F__law_lifts_right : Fun K "_law_lifts_right" "_law_lifts_right" (topS 39) a__law_lifts_right fd__law_lifts_right
  b__law_lifts_right : Binds K fd__law_lifts_right ["hand", "group", "window"] []
  g__law_lifts_right : mg "_law_lifts_right" = some (.ref a__law_lifts_right)
  a__law_paper_right : Addr
  fd__law_paper_right : FuncData
  F__law_paper_right : Fun K "_law_paper_right" "_law_paper_right" (topS 40) a__law_paper_right fd__law_paper_right
  b__law_paper_right : Binds K fd__law_paper_right ["group", "window", "makers"] []
  g__law_paper_right : mg "_law_paper_right" = some (.ref a__law_paper_right)
  a__law_recipe_right : Addr
  fd__law_recipe_right : FuncData
  F__law_recipe_right : Fun K "_law_recipe_right" "_law_recipe_right" (topS 41) a__law_recipe_right fd__law_recipe_right
  b__law_recipe_right : Binds K fd__law_recipe_right ["hand", "group", "window", "makers", "whole"] []
  g__law_recipe_right : mg "_law_recipe_right" = some (.ref a__law_recipe_right)
  a_law : Addr
  fd_law : FuncData
  F_law : Fun K "law" "law" (topS 42) a_law fd_law
  b_law : Binds K fd_law ["script"] []
  g_law : mg "law" = some (.ref a_law)
section
variable {P : Program} {w : World} {K : PySem.W.Frag} {T : Br.Tab} {mg : Str → Option Value} {base : Heap}
theorem ok_is_whole (Z : Facts K T mg) : FnOk P w K mg base (L2.CX P w) 1 Z.a_is_whole Z.fd_is_whole ["thing"] (Br.spM K T f_is_whole) := by
  refine br_def (N := ["thing"]) (b := b_is_whole) Z.F_is_whole sc_is_whole fun cdv A outer s H E hr => ?_
  have nd := sc_is_whole.nd
  have tk := takes_of (E := E) (X := cxOf (L2.CX P w) P w K mg base ["thing"] "is_whole" (defScope (topS 3)) Z.a_is_whole cdv A outer s H E) rfl rfl rfl rfl
  have po := passes_of (X := cxOf (L2.CX P w) P w K mg base ["thing"] "is_whole" (defScope (topS 3)) Z.a_is_whole cdv A outer s H E) rfl
  have hu := hu_of hr
  have hu64 := hr.units
  have hu65 := hu65_of hr
  have hu66 := hu66_of hr
  exact (bss_one (bs_ret (br_and (br_isa (t := .int) PyProof.Rows.boot_int (by rfl) Z.m_isinstance (by rfl) Z.m_int (br_var 0 (.inl rfl))) (br_one (br_not (br_isa (t := .bool) PyProof.Rows.boot_bool (by rfl) Z.m_isinstance (by rfl) Z.m_bool (br_var 0 (.inl rfl))))))))
theorem ok_is_turning (Z : Facts K T mg) : FnOk P w K mg base (L2.CX P w) 2 Z.a_is_turning Z.fd_is_turning ["thing"] (Br.spM K T f_is_turning) := by
  refine br_def (N := ["thing", "seen", "to"]) (b := b_is_turning) Z.F_is_turning sc_is_turning fun cdv A outer s H E hr => ?_
  have nd := sc_is_turning.nd
  have tk := takes_of (E := E) (X := cxOf (L2.CX P w) P w K mg base ["thing", "seen", "to"] "is_turning" (defScope (topS 4)) Z.a_is_turning cdv A outer s H E) rfl rfl rfl rfl
  have po := passes_of (X := cxOf (L2.CX P w) P w K mg base ["thing", "seen", "to"] "is_turning" (defScope (topS 4)) Z.a_is_turning cdv A outer s H E) rfl
  have hu := hu_of hr
  have hu64 := hr.units
  have hu65 := hu65_of hr
  have hu66 := hu66_of hr
  exact (bss_cons (bs_if (PW.pt (bw_or (bt_not (bt_val (br_isa (t := .tuple) PyProof.Rows.boot_tuple (by rfl) Z.m_isinstance (by rfl) Z.m_tuple (br_var 0 (.inl rfl))))) (bw_or (bt_cmp op_lt o_lt (bB_1 call_len_seq o_len (by rfl) Z.m_len PySem.boot_len (br_var 0 (.inl rfl))) br_int (nomark _)) (bw_1 (bt_cmp op_gt o_gt (bB_1 call_len_seq o_len (by rfl) Z.m_len PySem.boot_len (br_var 0 (.inl rfl))) (br_gint (by rfl) Z.c_MOST) (nomark _)))))) (bss_one (bs_ret br_bl)) bss_nil)
      (bss_cons (bs_set (i := 1) nd rfl (.inl rfl) (br_Lc (bl_mul (br_L (br_lst (br_acons br_bl br_anil))) (bB_1 call_len_seq o_len (by rfl) Z.m_len PySem.boot_len (br_var 0 (.inl rfl))))))
      (bss_cons (bs_for po (by rfl) (bi_tup (br_var 0 (.inl rfl))) (bg_name (i := 2) nd rfl (.inl rfl)) (bss_cons (bs_if (PW.pt (bw_or (bt_not (bt_val (br_call (FnOk.pop (ok_is_whole Z)) (hr.mono (by decide)) (by rfl) Z.g_is_whole Z.F_is_whole.kp Z.b_is_whole tk (br_acons (br_var 2 (.inl rfl)) br_anil)))) (bw_or (bt_cmp op_lt o_lt (br_var 2 (.inl rfl)) br_int (nomark _)) (bw_1 (bt_cmp op_ge o_ge (br_var 2 (.inl rfl)) (bB_1 call_len_seq o_len (by rfl) Z.m_len PySem.boot_len (br_var 0 (.inl rfl))) (nomark _)))))) (bss_one (bs_ret br_bl)) bss_nil)
      (bss_cons (bs_if (bt_val (br_ix (br_var 1 (.inl rfl)) (br_var 2 (.inl rfl)) (fun _ _ => rfl))) (bss_one (bs_ret br_bl)) bss_nil)
      (bss_one (bs_putL (br_var 1 (.inl rfl)) (br_var 2 (.inl rfl)) br_bl)))))
      (bss_one (bs_ret br_bl)))))
theorem ok_still (Z : Facts K T mg) : FnOk P w K mg base (L2.CX P w) 1 Z.a_still Z.fd_still ["many"] (Br.spM K T f_still) := by
  refine br_def (N := ["many"]) (b := b_still) Z.F_still sc_still fun cdv A outer s H E hr => ?_
  have nd := sc_still.nd
  have tk := takes_of (E := E) (X := cxOf (L2.CX P w) P w K mg base ["many"] "still" (defScope (topS 5)) Z.a_still cdv A outer s H E) rfl rfl rfl rfl
  have po := passes_of (X := cxOf (L2.CX P w) P w K mg base ["many"] "still" (defScope (topS 5)) Z.a_still cdv A outer s H E) rfl
  have hu := hu_of hr
  have hu64 := hr.units
  have hu65 := hu65_of hr
  have hu66 := hu66_of hr
  exact (bss_one (bs_ret (br_tupRange (by rfl) (by rfl) Z.m_tuple (by rfl) Z.m_range (br_var 0 (.inl rfl)))))
theorem ok_behind (Z : Facts K T mg) : FnOk P w K mg base (L2.CX P w) 1 Z.a_behind Z.fd_behind ["one", "other"] (Br.spM K T f_behind) := by
  refine br_def (N := ["one", "other", "to"]) (b := b_behind) Z.F_behind sc_behind fun cdv A outer s H E hr => ?_
  have nd := sc_behind.nd
  have tk := takes_of (E := E) (X := cxOf (L2.CX P w) P w K mg base ["one", "other", "to"] "behind" (defScope (topS 6)) Z.a_behind cdv A outer s H E) rfl rfl rfl rfl
  have po := passes_of (X := cxOf (L2.CX P w) P w K mg base ["one", "other", "to"] "behind" (defScope (topS 6)) Z.a_behind cdv A outer s H E) rfl
  have hu := hu_of hr
  have hu64 := hr.units
  have hu65 := hu65_of hr
  have hu66 := hu66_of hr
  exact (bss_one (bs_ret (bT_1 call_tuple_of o_tuple (by rfl) Z.m_tuple PyProof.Rows.boot_tuple (br_L (bl_comp (own := [("to", 2)]) (by rfl) nd (bi_tup (br_var 0 (.inl rfl))) (blkOk_by (by rfl)) (fun _ _ _ _ _ => (cg_name (i := 2) (by decide) nd rfl (.inl rfl))) (fun _ _ _ _ _ => bts_nil) (fun _ _ _ _ _ => (br_ix (br_var 1 (.inr (.inl rfl))) (br_var 2 (.inl rfl)) (fun _ _ => rfl))))))))
theorem ok_back (Z : Facts K T mg) : FnOk P w K mg base (L2.CX P w) 1 Z.a_back Z.fd_back ["one"] (Br.spM K T f_back) := by
  refine br_def (N := ["one", "made", "place", "to"]) (b := b_back) Z.F_back sc_back fun cdv A outer s H E hr => ?_
  have nd := sc_back.nd
  have tk := takes_of (E := E) (X := cxOf (L2.CX P w) P w K mg base ["one", "made", "place", "to"] "back" (defScope (topS 7)) Z.a_back cdv A outer s H E) rfl rfl rfl rfl
  have po := passes_of (X := cxOf (L2.CX P w) P w K mg base ["one", "made", "place", "to"] "back" (defScope (topS 7)) Z.a_back cdv A outer s H E) rfl
  have hu := hu_of hr
  have hu64 := hr.units
  have hu65 := hu65_of hr
  have hu66 := hu66_of hr
  exact (bss_cons (bs_set (i := 1) nd rfl (.inl rfl) (br_Lc (bl_mul (br_L (br_lst (br_acons br_int br_anil))) (bB_1 call_len_seq o_len (by rfl) Z.m_len PySem.boot_len (br_var 0 (.inl rfl))))))
      (bss_cons (bs_for po (by rfl) (bi_enumT (by rfl) Z.m_enumerate (br_var 0 (.inl rfl))) (bg_tup (by rfl) (bgs_cons (bg_name (i := 2) nd rfl (.inl rfl)) (bgs_cons (bg_name (i := 3) nd rfl (.inl rfl)) bgs_nil))) (bss_one (bs_putL (br_var 1 (.inl rfl)) (br_var 3 (.inl rfl)) (br_var 2 (.inl rfl)))))
      (bss_one (bs_ret (bT_1 call_tuple_of o_tuple (by rfl) Z.m_tuple PyProof.Rows.boot_tuple (br_var 1 (.inl rfl)))))))
theorem ok_Step___init__ (Z : Facts K T mg) : FnOk P w K mg base (L2.CX P w) 2 Z.a_Step___init__ Z.fd_Step___init__ ["self", "place", "many"] (Br.spM K T f_Step___init__) := by
  refine br_def (N := ["self", "place", "many"]) (b := b_Step___init__) Z.F_Step___init__ sc_Step___init__ fun cdv A outer s H E hr => ?_
  have nd := sc_Step___init__.nd
  have tk := takes_of (E := E) (X := cxOf (L2.CX P w) P w K mg base ["self", "place", "many"] "Step.__init__" (defScope (inClass (topS 9) 0)) Z.a_Step___init__ cdv A outer s H E) rfl rfl rfl rfl
  have po := passes_of (X := cxOf (L2.CX P w) P w K mg base ["self", "place", "many"] "Step.__init__" (defScope (inClass (topS 9) 0)) Z.a_Step___init__ cdv A outer s H E) rfl
  have hu := hu_of hr
  have hu64 := hr.units
  have hu65 := hu65_of hr
  have hu66 := hu66_of hr
  exact (bss_cons (bs_fld Z.oC_Step (i := 0) rfl (br_var 0 (.inl rfl)) (br_var 1 (.inl rfl)))
      (bss_cons (bs_fld Z.oC_Step (i := 1) rfl (br_var 0 (.inl rfl)) (br_dict (.cons (br_var 1 (.inl rfl)) (br_tup (br_acons (br_call (FnOk.pop (ok_still Z)) (hr.mono (by decide)) (by rfl) Z.g_still Z.F_still.kp Z.b_still tk (br_acons (br_var 2 (.inl rfl)) br_anil)) (br_acons br_int br_anil))) .nil) (by exact List.cons_ne_nil _ _) (by decide)))
      (bss_one (bs_fld Z.oC_Step (i := 2) rfl (br_var 0 (.inl rfl)) (br_Lc (br_lst br_anil))))))
theorem ok_Chain___init__ (Z : Facts K T mg) : FnOk P w K mg base (L2.CX P w) 4 Z.a_Chain___init__ Z.fd_Chain___init__ ["self", "many"] (Br.spM K T f_Chain___init__) := by
  refine br_def (N := ["self", "many", "place"]) (b := b_Chain___init__) Z.F_Chain___init__ sc_Chain___init__ fun cdv A outer s H E hr => ?_
  have nd := sc_Chain___init__.nd
  have tk := takes_of (E := E) (X := cxOf (L2.CX P w) P w K mg base ["self", "many", "place"] "Chain.__init__" (defScope (inClass (topS 10) 0)) Z.a_Chain___init__ cdv A outer s H E) rfl rfl rfl rfl
  have po := passes_of (X := cxOf (L2.CX P w) P w K mg base ["self", "many", "place"] "Chain.__init__" (defScope (inClass (topS 10) 0)) Z.a_Chain___init__ cdv A outer s H E) rfl
  have hu := hu_of hr
  have hu64 := hr.units
  have hu65 := hu65_of hr
  have hu66 := hu66_of hr
  exact (bss_cons (bs_fld Z.oC_Chain (i := 0) rfl (br_var 0 (.inl rfl)) (br_var 1 (.inr (.inl rfl))))
      (bss_cons (bs_fld Z.oC_Chain (i := 1) rfl (br_var 0 (.inl rfl)) (br_Lc (br_lst (br_acons (br_tup (br_acons br_str br_anil)) br_anil))))
      (bss_one (bs_fld Z.oC_Chain (i := 2) rfl (br_var 0 (.inl rfl)) (br_L (bl_comp (own := [("place", 2)]) (by rfl) nd (bi_range (by rfl) Z.m_range (br_var 1 (.inr (.inl rfl)))) (blkOk_by (by rfl)) (fun _ _ _ _ _ => (cg_name (i := 2) (by decide) nd rfl (.inl rfl))) (fun _ _ _ _ _ => bts_nil) (fun _ _ _ _ _ => (br_make Z.oC_Step Z.mk_Step (ok_Step___init__ Z) (hr.mono (by decide)) (by rfl) Z.gC_Step Z.b_Step___init__ takes0 (br_acons (br_var 2 (.inl rfl)) (br_acons (br_var 1 (.inr (.inl rfl))) br_anil))))))))))
theorem ok_Chain_noted (Z : Facts K T mg) : FnOk P w K mg base (L2.CX P w) 1 Z.a_Chain_noted Z.fd_Chain_noted ["self", "line"] (Br.spM K T f_Chain_noted) := by
  refine br_def (N := ["self", "line"]) (b := b_Chain_noted) Z.F_Chain_noted sc_Chain_noted fun cdv A outer s H E hr => ?_
  have nd := sc_Chain_noted.nd
  have tk := takes_of (E := E) (X := cxOf (L2.CX P w) P w K mg base ["self", "line"] "Chain.noted" (defScope (inClass (topS 10) 1)) Z.a_Chain_noted cdv A outer s H E) rfl rfl rfl rfl
  have po := passes_of (X := cxOf (L2.CX P w) P w K mg base ["self", "line"] "Chain.noted" (defScope (inClass (topS 10) 1)) Z.a_Chain_noted cdv A outer s H E) rfl
  have hu := hu_of hr
  have hu64 := hr.units
  have hu65 := hu65_of hr
  have hu66 := hu66_of hr
  exact (bss_cons (bs_expr (br_m PySem.F.plainAttrs_list PySem.F.slot_list_append PySem.F.type_list_append mt_append ok_list o_append (br_fld Z.oC_Chain (i := 1) rfl (br_var 0 (.inl rfl))) (br_acons (br_var 1 (.inl rfl)) br_anil)))
      (bss_one (bs_ret (br_bin op_sub o_sub (bB_1 call_len_seq o_len (by rfl) Z.m_len PySem.boot_len (br_fld Z.oC_Chain (i := 1) rfl (br_var 0 (.inl rfl)))) br_int))))
theorem ok_Chain_line_of (Z : Facts K T mg) : FnOk P w K mg base (L2.CX P w) 2 Z.a_Chain_line_of Z.fd_Chain_line_of ["self", "made"] (Br.spM K T f_Chain_line_of) := by
  refine br_def (N := ["self", "made", "ahead", "last"]) (b := b_Chain_line_of) Z.F_Chain_line_of sc_Chain_line_of fun cdv A outer s H E hr => ?_
  have nd := sc_Chain_line_of.nd
  have tk := takes_of (E := E) (X := cxOf (L2.CX P w) P w K mg base ["self", "made", "ahead", "last"] "Chain.line_of" (defScope (inClass (topS 10) 2)) Z.a_Chain_line_of cdv A outer s H E) rfl rfl rfl rfl
  have po := passes_of (X := cxOf (L2.CX P w) P w K mg base ["self", "made", "ahead", "last"] "Chain.line_of" (defScope (inClass (topS 10) 2)) Z.a_Chain_line_of cdv A outer s H E) rfl
  have hu := hu_of hr
  have hu64 := hr.units
  have hu65 := hu65_of hr
  have hu66 := hu66_of hr
  exact (bss_cons (bs_if (bt_cmp op_eq o_eqS (bB_1 call_len_seq o_len (by rfl) Z.m_len PySem.boot_len (br_var 1 (.inl rfl))) br_int (nomark _)) (bss_one (bs_ret (br_ix (br_var 1 (.inl rfl)) br_int (fun _ _ => rfl)))) bss_nil)
      (bss_cons (bs_set (i := 2) nd rfl (.inl rfl) (br_meth Z.oC_Chain (by decide) Z.mm_Chain_noted (FnOk.pop (ok_Chain_noted Z)) (hr.mono (by decide)) Z.b_Chain_noted tk (br_var 0 (.inl rfl)) (br_acons (br_tup (br_acons br_str (br_acons (br_ix (br_var 1 (.inl rfl)) br_int (fun _ _ => rfl)) (br_acons (br_ix (br_var 1 (.inl rfl)) br_int (fun _ _ => rfl)) br_anil)))) br_anil)))
      (bss_cons (bs_set (i := 3) nd rfl (.inl rfl) (br_meth Z.oC_Chain (by decide) Z.mm_Chain_noted (FnOk.pop (ok_Chain_noted Z)) (hr.mono (by decide)) Z.b_Chain_noted tk (br_var 0 (.inl rfl)) (br_acons (br_tup (br_acons br_str (br_acons (br_ix (br_var 1 (.inl rfl)) br_int (fun _ _ => rfl)) br_anil))) br_anil)))
      (bss_one (bs_ret (br_meth Z.oC_Chain (by decide) Z.mm_Chain_noted (FnOk.pop (ok_Chain_noted Z)) (hr.mono (by decide)) Z.b_Chain_noted tk (br_var 0 (.inl rfl)) (br_acons (br_tup (br_acons br_str (br_acons (br_var 2 (.inl rfl)) (br_acons (br_var 3 (.inl rfl)) br_anil)))) br_anil)))))))
theorem ok_Chain_rest (Z : Facts K T mg) : FnOk P w K mg base (L2.CX P w) 2 Z.a_Chain_rest Z.fd_Chain_rest ["self", "one", "start"] (Br.spM K T f_Chain_rest) := by
  refine br_def (N := ["self", "one", "start", "step", "to"]) (b := b_Chain_rest) Z.F_Chain_rest sc_Chain_rest fun cdv A outer s H E hr => ?_
  have nd := sc_Chain_rest.nd
  have tk := takes_of (E := E) (X := cxOf (L2.CX P w) P w K mg base ["self", "one", "start", "step", "to"] "Chain.rest" (defScope (inClass (topS 10) 3)) Z.a_Chain_rest cdv A outer s H E) rfl rfl rfl rfl
  have po := passes_of (X := cxOf (L2.CX P w) P w K mg base ["self", "one", "start", "step", "to"] "Chain.rest" (defScope (inClass (topS 10) 3)) Z.a_Chain_rest cdv A outer s H E) rfl
  have hu := hu_of hr
  have hu64 := hr.units
  have hu65 := hu65_of hr
  have hu66 := hu66_of hr
  exact (bss_cons (bs_for po (by rfl) (bi_list (br_L (bl_cut (br_fld Z.oC_Chain (i := 2) rfl (br_var 0 (.inl rfl))) (bo_some (br_var 2 (.inl rfl))) bo_none))) (bg_name (i := 3) nd rfl (.inl rfl)) (bss_cons (bs_set (i := 4) nd rfl (.inl rfl) (br_ix (br_var 1 (.inl rfl)) (br_fld Z.oC_Step (i := 0) rfl (br_var 3 (.inl rfl))) (fun _ _ => rfl)))
      (bss_cons (bs_if (bt_dnotin hu (br_var 4 (.inl rfl)) (br_fld Z.oC_Step (i := 1) rfl (br_var 3 (.inl rfl)))) (bss_one (bs_ret (br_tup (br_acons (br_fld Z.oC_Step (i := 0) rfl (br_var 3 (.inl rfl))) (br_acons (br_var 1 (.inl rfl)) br_anil))))) bss_nil)
      (bss_one (bs_if (bt_cmp op_ne o_neS (br_var 4 (.inl rfl)) (br_fld Z.oC_Step (i := 0) rfl (br_var 3 (.inl rfl))) (nomark _)) (bss_one (bs_set (i := 1) nd rfl (.inl rfl) (br_call (FnOk.pop (ok_behind Z)) (hr.mono (by decide)) (by rfl) Z.g_behind Z.F_behind.kp Z.b_behind tk (br_acons (br_var 1 (.inl rfl)) (br_acons (br_call (FnOk.pop (ok_back Z)) (hr.mono (by decide)) (by rfl) Z.g_back Z.F_back.kp Z.b_back tk (br_acons (br_ix (br_dget hu (br_fld Z.oC_Step (i := 1) rfl (br_var 3 (.inl rfl))) (br_var 4 (.inl rfl)) (fun _ _ => rfl)) br_int (fun _ _ => rfl)) br_anil)) br_anil))))) bss_nil)))))
      (bss_one (bs_ret (br_tup (br_acons (br_fld Z.oC_Chain (i := 0) rfl (br_var 0 (.inl rfl))) (br_acons (br_var 1 (.inl rfl)) br_anil))))))
theorem ok_Chain_has (Z : Facts K T mg) : FnOk P w K mg base (L2.CX P w) 3 Z.a_Chain_has Z.fd_Chain_has ["self", "one"] (Br.spM K T f_Chain_has) := by
  refine br_def (N := ["self", "one"]) (b := b_Chain_has) Z.F_Chain_has sc_Chain_has fun cdv A outer s H E hr => ?_
  have nd := sc_Chain_has.nd
  have tk := takes_of (E := E) (X := cxOf (L2.CX P w) P w K mg base ["self", "one"] "Chain.has" (defScope (inClass (topS 10) 4)) Z.a_Chain_has cdv A outer s H E) rfl rfl rfl rfl
  have po := passes_of (X := cxOf (L2.CX P w) P w K mg base ["self", "one"] "Chain.has" (defScope (inClass (topS 10) 4)) Z.a_Chain_has cdv A outer s H E) rfl
  have hu := hu_of hr
  have hu64 := hr.units
  have hu65 := hu65_of hr
  have hu66 := hu66_of hr
  exact (bss_one (bs_ret (br_cmp op_eq o_eqS (br_ix (br_meth Z.oC_Chain (by decide) Z.mm_Chain_rest (FnOk.pop (ok_Chain_rest Z)) (hr.mono (by decide)) Z.b_Chain_rest tk (br_var 0 (.inl rfl)) (br_acons (br_var 1 (.inl rfl)) (br_acons br_int br_anil))) br_int (fun _ _ => rfl)) (br_fld Z.oC_Chain (i := 0) rfl (br_var 0 (.inl rfl))) (nomark _))))
theorem ok_Chain_size (Z : Facts K T mg) : FnOk P w K mg base (L2.CX P w) 1 Z.a_Chain_size Z.fd_Chain_size ["self"] (Br.spM K T f_Chain_size) := by
  refine br_def (N := ["self", "found", "step"]) (b := b_Chain_size) Z.F_Chain_size sc_Chain_size fun cdv A outer s H E hr => ?_
  have nd := sc_Chain_size.nd
  have tk := takes_of (E := E) (X := cxOf (L2.CX P w) P w K mg base ["self", "found", "step"] "Chain.size" (defScope (inClass (topS 10) 5)) Z.a_Chain_size cdv A outer s H E) rfl rfl rfl rfl
  have po := passes_of (X := cxOf (L2.CX P w) P w K mg base ["self", "found", "step"] "Chain.size" (defScope (inClass (topS 10) 5)) Z.a_Chain_size cdv A outer s H E) rfl
  have hu := hu_of hr
  have hu64 := hr.units
  have hu65 := hu65_of hr
  have hu66 := hu66_of hr
  exact (bss_cons (bs_set (i := 1) nd rfl (.inl rfl) br_int)
      (bss_cons (bs_for po (by rfl) (bi_list (br_fld Z.oC_Chain (i := 2) rfl (br_var 0 (.inl rfl)))) (bg_name (i := 2) nd rfl (.inl rfl)) (bss_one (bs_aug2 (i := 1) nd rfl (.inl rfl) (bB_1 call_lenD o_lenD (by rfl) Z.m_len PySem.boot_len (br_fld Z.oC_Step (i := 1) rfl (br_var 2 (.inl rfl)))) iop_mulW o_mul)))
      (bss_one (bs_ret (br_var 1 (.inl rfl))))))
theorem ok_Chain_least (Z : Facts K T mg) : FnOk P w K mg base (L2.CX P w) 2 Z.a_Chain_least Z.fd_Chain_least ["self", "one", "start"] (Br.spM K T f_Chain_least) := by
  refine br_def (N := ["self", "one", "start", "step", "best", "place"]) (b := b_Chain_least) Z.F_Chain_least sc_Chain_least fun cdv A outer s H E hr => ?_
  have nd := sc_Chain_least.nd
  have tk := takes_of (E := E) (X := cxOf (L2.CX P w) P w K mg base ["self", "one", "start", "step", "best", "place"] "Chain.least" (defScope (inClass (topS 10) 6)) Z.a_Chain_least cdv A outer s H E) rfl rfl rfl rfl
  have po := passes_of (X := cxOf (L2.CX P w) P w K mg base ["self", "one", "start", "step", "best", "place"] "Chain.least" (defScope (inClass (topS 10) 6)) Z.a_Chain_least cdv A outer s H E) rfl
  have hu := hu_of hr
  have hu64 := hr.units
  have hu65 := hu65_of hr
  have hu66 := hu66_of hr
  exact (bss_cons (bs_for po (by rfl) (bi_list (br_L (bl_cut (br_fld Z.oC_Chain (i := 2) rfl (br_var 0 (.inl rfl))) (bo_some (br_var 2 (.inl rfl))) bo_none))) (bg_name (i := 3) nd rfl (.inl rfl)) (bss_cons (bs_set (i := 4) nd rfl (.inl rfl) (br_fld Z.oC_Step (i := 0) rfl (br_var 3 (.inl rfl))))
      (bss_cons (bs_lock (bs_for po (by rfl) (bi_keys (br_fld Z.oC_Step (i := 1) rfl (br_var 3 (.inl rfl)))) (bg_name (i := 5) nd rfl (.inl rfl)) (bss_one (bs_if (bt_cmp op_lt o_lt (br_ix (br_var 1 (.inl rfl)) (br_var 5 (.inl rfl)) (fun _ _ => rfl)) (br_ix (br_var 1 (.inl rfl)) (br_var 4 (.inl rfl)) (fun _ _ => rfl)) (nomark _)) (bss_one (bs_set (i := 4) nd rfl (.inl rfl) (br_var 5 (.inl rfl)))) bss_nil))))
      (bss_one (bs_if (bt_cmp op_ne o_neS (br_var 4 (.inl rfl)) (br_fld Z.oC_Step (i := 0) rfl (br_var 3 (.inl rfl))) (nomark _)) (bss_one (bs_set (i := 1) nd rfl (.inl rfl) (br_call (FnOk.pop (ok_behind Z)) (hr.mono (by decide)) (by rfl) Z.g_behind Z.F_behind.kp Z.b_behind tk (br_acons (br_ix (br_dget hu (br_fld Z.oC_Step (i := 1) rfl (br_var 3 (.inl rfl))) (br_var 4 (.inl rfl)) (fun _ _ => rfl)) br_int (fun _ _ => rfl)) (br_acons (br_var 1 (.inl rfl)) br_anil))))) bss_nil)))))
      (bss_one (bs_ret (br_var 1 (.inl rfl)))))
theorem ok_Chain_grown (Z : Facts K T mg) : FnOk P w K mg base (L2.CX P w) 2 Z.a_Chain_grown Z.fd_Chain_grown ["self", "step", "one", "line"] (Br.spM K T f_Chain_grown) := by
  refine br_def (N := ["self", "step", "one", "line", "pairs", "to", "tasks", "at", "number", "lift", "lift_line", "maker", "maker_line", "made", "goal", "k", "last", "last_line"]) (b := b_Chain_grown) Z.F_Chain_grown sc_Chain_grown fun cdv A outer s H E hr => ?_
  have nd := sc_Chain_grown.nd
  have tk := takes_of (E := E) (X := cxOf (L2.CX P w) P w K mg base ["self", "step", "one", "line", "pairs", "to", "tasks", "at", "number", "lift", "lift_line", "maker", "maker_line", "made", "goal", "k", "last", "last_line"] "Chain.grown" (defScope (inClass (topS 10) 8)) Z.a_Chain_grown cdv A outer s H E) rfl rfl rfl rfl
  have po := passes_of (X := cxOf (L2.CX P w) P w K mg base ["self", "step", "one", "line", "pairs", "to", "tasks", "at", "number", "lift", "lift_line", "maker", "maker_line", "made", "goal", "k", "last", "last_line"] "Chain.grown" (defScope (inClass (topS 10) 8)) Z.a_Chain_grown cdv A outer s H E) rfl
  have hu := hu_of hr
  have hu64 := hr.units
  have hu65 := hu65_of hr
  have hu66 := hu66_of hr
  exact (bss_cons (bs_expr (br_m PySem.F.plainAttrs_list PySem.F.slot_list_append PySem.F.type_list_append mt_append ok_list o_append (br_fld Z.oC_Step (i := 2) rfl (br_var 1 (.inr (.inl rfl)))) (br_acons (br_tup (br_acons (br_var 2 (.inl rfl)) (br_acons (br_var 3 (.inl rfl)) br_anil))) br_anil)))
      (bss_cons (bs_lock (bs_setCompC (i := 4) rfl rfl (sw_true rfl rfl rfl (by decide +kernel)) (own := [("to", 5)]) (by rfl) nd (bi_keys (br_fld Z.oC_Step (i := 1) rfl (br_var 1 (.inr (.inl rfl))))) (blkOk_by (by rfl)) (fun _ _ _ _ _ => (cg_name (i := 5) (by decide) nd rfl (.inl rfl))) (fun _ _ _ _ _ => bts_nil) (fun _ _ _ _ _ => (br_tup (br_acons (br_var 5 (.inl rfl)) (br_acons (br_bin op_sub o_sub (bB_1 call_len_seq o_len (by rfl) Z.m_len PySem.boot_len (br_fld Z.oC_Step (i := 2) rfl (br_var 1 (.inr (.inl rfl))))) br_int) br_anil))))))
      (bss_cons (bs_set (i := 6) nd rfl (.inl rfl) (br_Lc (br_lst br_anil)))
      (bss_cons (bs_set (i := 7) nd rfl (.inl rfl) br_int)
      (bss_cons (bs_while po (bt_cmp op_lt o_lt (br_var 7 (.inl rfl)) (bB_1 call_len_seq o_len (by rfl) Z.m_len PySem.boot_len (br_var 4 (.inl rfl))) (nomark _)) (bss_cons (bs_asg (br_ix (br_var 4 (.inl rfl)) (br_var 7 (.inl rfl)) (fun _ _ => rfl)) (bg_tup (by rfl) (bgs_cons (bg_name (i := 5) nd rfl (.inl rfl)) (bgs_cons (bg_name (i := 8) nd rfl (.inl rfl)) bgs_nil))))
      (bss_cons (bs_aug (i := 7) nd rfl (.inl rfl) br_int ip_add g_add)
      (bss_cons (bs_asg (br_dget hu (br_fld Z.oC_Step (i := 1) rfl (br_var 1 (.inr (.inl rfl)))) (br_var 5 (.inl rfl)) (fun _ _ => rfl)) (bg_tup (by rfl) (bgs_cons (bg_name (i := 9) nd rfl (.inl rfl)) (bgs_cons (bg_name (i := 10) nd rfl (.inl rfl)) bgs_nil))))
      (bss_cons (bs_asg (br_ix (br_fld Z.oC_Step (i := 2) rfl (br_var 1 (.inr (.inl rfl)))) (br_var 8 (.inl rfl)) (fun _ _ => rfl)) (bg_tup (by rfl) (bgs_cons (bg_name (i := 11) nd rfl (.inl rfl)) (bgs_cons (bg_name (i := 12) nd rfl (.inl rfl)) bgs_nil))))
      (bss_cons (bs_set (i := 13) nd rfl (.inl rfl) (br_call (FnOk.pop (ok_behind Z)) (hr.mono (by decide)) (by rfl) Z.g_behind Z.F_behind.kp Z.b_behind tk (br_acons (br_var 9 (.inl rfl)) (br_acons (br_var 11 (.inl rfl)) br_anil))))
      (bss_cons (bs_set (i := 14) nd rfl (.inr rfl) (br_ix (br_var 11 (.inl rfl)) (br_var 5 (.inl rfl)) (fun _ _ => rfl)))
      (bss_one (bs_if (bt_dnotin hu (br_var 14 (.inr (.inl rfl))) (br_fld Z.oC_Step (i := 1) rfl (br_var 1 (.inr (.inl rfl))))) (bss_cons (bs_putD hu (br_fld Z.oC_Step (i := 1) rfl (br_var 1 (.inr (.inl rfl)))) (br_var 14 (.inr (.inl rfl))) (br_tup (br_acons (br_var 13 (.inl rfl)) (br_acons (br_meth Z.oC_Chain (by decide) Z.mm_Chain_noted (FnOk.pop (ok_Chain_noted Z)) (hr.mono (by decide)) Z.b_Chain_noted tk (br_var 0 (.inl rfl)) (br_acons (br_tup (br_acons br_str (br_acons (br_var 10 (.inl rfl)) (br_acons (br_var 12 (.inl rfl)) br_anil)))) br_anil)) br_anil))))
      (bss_one (bs_expr (br_m PySem.F.plainAttrs_list PySem.F.slot_list_extend PySem.F.type_list_extend mt_extend ok_list o_extend (br_var 4 (.inl rfl)) (br_acons (br_L (bl_comp (own := [("k", 15)]) (by rfl) nd (bi_range (by rfl) Z.m_range (bB_1 call_len_seq o_len (by rfl) Z.m_len PySem.boot_len (br_fld Z.oC_Step (i := 2) rfl (br_var 1 (.inr (.inl rfl)))))) (blkOk_by (by rfl)) (fun _ _ _ _ _ => (cg_name (i := 15) (by decide) nd rfl (.inl rfl))) (fun _ _ _ _ _ => bts_nil) (fun _ _ _ _ _ => (br_tup (br_acons (br_var 14 (.inr (.inl rfl))) (br_acons (br_var 15 (.inl rfl)) br_anil)))))) br_anil))))) (bss_one (bs_if (bt_cmp (op_neD hu64) o_ne (br_var 13 (.inl rfl)) (br_ix (br_dget hu (br_fld Z.oC_Step (i := 1) rfl (br_var 1 (.inr (.inl rfl)))) (br_var 14 (.inr (.inl rfl))) (fun _ _ => rfl)) br_int (fun _ _ => rfl)) (nomark _)) (bss_cons (bs_asg (br_dget hu (br_fld Z.oC_Step (i := 1) rfl (br_var 1 (.inr (.inl rfl)))) (br_var 14 (.inr (.inl rfl))) (fun _ _ => rfl)) (bg_tup (by rfl) (bgs_cons (bg_name (i := 16) nd rfl (.inl rfl)) (bgs_cons (bg_name (i := 17) nd rfl (.inl rfl)) bgs_nil))))
      (bss_one (bs_expr (br_m PySem.F.plainAttrs_list PySem.F.slot_list_append PySem.F.type_list_append mt_append ok_list o_append (br_var 6 (.inl rfl)) (br_acons (br_tup (br_acons (br_bin op_add o_add (br_fld Z.oC_Step (i := 0) rfl (br_var 1 (.inr (.inl rfl)))) br_int) (br_acons (br_call (FnOk.pop (ok_behind Z)) (hr.mono (by decide)) (by rfl) Z.g_behind Z.F_behind.kp Z.b_behind tk (br_acons (br_var 13 (.inl rfl)) (br_acons (br_call (FnOk.pop (ok_back Z)) (hr.mono (by decide)) (by rfl) Z.g_back Z.F_back.kp Z.b_back tk (br_acons (br_var 16 (.inl rfl)) br_anil)) br_anil))) (br_acons (br_tup (br_acons (br_var 10 (.inl rfl)) (br_acons (br_var 12 (.inl rfl)) (br_acons (br_var 17 (.inl rfl)) br_anil)))) br_anil)))) br_anil))))) bss_nil)))))))))))
      (bss_one (bs_ret (br_var 6 (.inl rfl)))))))))
theorem ok_Chain_add (Z : Facts K T mg) : FnOk P w K mg base (L2.CX P w) 3 Z.a_Chain_add Z.fd_Chain_add ["self", "one", "line"] (Br.spM K T f_Chain_add) := by
  refine br_def (N := ["self", "one", "line", "tasks", "start", "found", "made"]) (b := b_Chain_add) Z.F_Chain_add sc_Chain_add fun cdv A outer s H E hr => ?_
  have nd := sc_Chain_add.nd
  have tk := takes_of (E := E) (X := cxOf (L2.CX P w) P w K mg base ["self", "one", "line", "tasks", "start", "found", "made"] "Chain.add" (defScope (inClass (topS 10) 7)) Z.a_Chain_add cdv A outer s H E) rfl rfl rfl rfl
  have po := passes_of (X := cxOf (L2.CX P w) P w K mg base ["self", "one", "line", "tasks", "start", "found", "made"] "Chain.add" (defScope (inClass (topS 10) 7)) Z.a_Chain_add cdv A outer s H E) rfl
  have hu := hu_of hr
  have hu64 := hr.units
  have hu65 := hu65_of hr
  have hu66 := hu66_of hr
  exact (bss_cons (bs_set (i := 3) nd rfl (.inl rfl) (br_Lc (br_lst (br_acons (br_tup (br_acons br_int (br_acons (br_var 1 (.inl rfl)) (br_acons (br_tup (br_acons (br_var 2 (.inl rfl)) br_anil)) br_anil)))) br_anil))))
      (bss_one (bs_while po (bt_cmp op_gt o_gt (bB_1 call_len_seq o_len (by rfl) Z.m_len PySem.boot_len (br_var 3 (.inl rfl))) br_int (nomark _)) (bss_cons (bs_asg (br_m0 PySem.F.plainAttrs_list PySem.F.slot_list_pop PySem.F.type_list_pop mt_pop ok_list o_pop (br_var 3 (.inl rfl))) (bg_tup (by rfl) (bgs_cons (bg_name (i := 4) nd rfl (.inl rfl)) (bgs_cons (bg_name (i := 5) nd rfl (.inl rfl)) (bgs_cons (bg_name (i := 6) nd rfl (.inl rfl)) bgs_nil)))))
      (bss_one (bs_if (bt_cmp op_lt o_lt (br_ix (br_meth Z.oC_Chain (by decide) Z.mm_Chain_rest (FnOk.pop (ok_Chain_rest Z)) (hr.mono (by decide)) Z.b_Chain_rest tk (br_var 0 (.inl rfl)) (br_acons (br_var 5 (.inl rfl)) (br_acons (br_var 4 (.inl rfl)) br_anil))) br_int (fun _ _ => rfl)) (br_fld Z.oC_Chain (i := 0) rfl (br_var 0 (.inl rfl))) (nomark _)) (bss_one (bs_expr (br_m PySem.F.plainAttrs_list PySem.F.slot_list_extend PySem.F.type_list_extend mt_extend ok_list o_extend (br_var 3 (.inl rfl)) (br_acons (br_meth Z.oC_Chain (by decide) Z.mm_Chain_grown (FnOk.pop (ok_Chain_grown Z)) (hr.mono (by decide)) Z.b_Chain_grown tk (br_var 0 (.inl rfl)) (br_acons (br_ix (br_fld Z.oC_Chain (i := 2) rfl (br_var 0 (.inl rfl))) (br_var 4 (.inl rfl)) (fun _ _ => rfl)) (br_acons (br_var 5 (.inl rfl)) (br_acons (br_meth Z.oC_Chain (by decide) Z.mm_Chain_line_of (FnOk.pop (ok_Chain_line_of Z)) (hr.mono (by decide)) Z.b_Chain_line_of tk (br_var 0 (.inl rfl)) (br_acons (br_var 6 (.inl rfl)) br_anil)) br_anil)))) br_anil)))) bss_nil))))))
theorem ok_lines_named (Z : Facts K T mg) : FnOk P w K mg base (L2.CX P w) 1 Z.a_lines_named Z.fd_lines_named ["line"] (Br.spM K T f_lines_named) := by
  refine br_def (N := ["line"]) (b := b_lines_named) Z.F_lines_named sc_lines_named fun cdv A outer s H E hr => ?_
  have nd := sc_lines_named.nd
  have tk := takes_of (E := E) (X := cxOf (L2.CX P w) P w K mg base ["line"] "lines_named" (defScope (topS 18)) Z.a_lines_named cdv A outer s H E) rfl rfl rfl rfl
  have po := passes_of (X := cxOf (L2.CX P w) P w K mg base ["line"] "lines_named" (defScope (topS 18)) Z.a_lines_named cdv A outer s H E) rfl
  have hu := hu_of hr
  have hu64 := hr.units
  have hu65 := hu65_of hr
  have hu66 := hu66_of hr
  exact (bss_cons (bs_if (PW.pt (bw_or (bt_cmp (op_eqD hu64) o_eq (br_ix (br_var 0 (.inl rfl)) br_int (fun _ _ => rfl)) br_str (nomark _)) (bw_1 (bt_cmp (op_eqD hu64) o_eq (br_ix (br_var 0 (.inl rfl)) br_int (fun _ _ => rfl)) br_str (nomark _))))) (bss_one (bs_ret (br_cutT (br_var 0 (.inl rfl)) (bo_some br_int) bo_none))) bss_nil)
      (bss_one (bs_ret (br_tup br_anil))))
theorem ok_trimmed (Z : Facts K T mg) : FnOk P w K mg base (L2.CX P w) 2 Z.a_trimmed Z.fd_trimmed ["lines"] (Br.spM K T f_trimmed) := by
  refine br_def (N := ["lines", "needed", "k", "at", "number", "numbers", "found", "line"]) (b := b_trimmed) Z.F_trimmed sc_trimmed fun cdv A outer s H E hr => ?_
  have nd := sc_trimmed.nd
  have tk := takes_of (E := E) (X := cxOf (L2.CX P w) P w K mg base ["lines", "needed", "k", "at", "number", "numbers", "found", "line"] "trimmed" (defScope (topS 19)) Z.a_trimmed cdv A outer s H E) rfl rfl rfl rfl
  have po := passes_of (X := cxOf (L2.CX P w) P w K mg base ["lines", "needed", "k", "at", "number", "numbers", "found", "line"] "trimmed" (defScope (topS 19)) Z.a_trimmed cdv A outer s H E) rfl
  have hu := hu_of hr
  have hu64 := hr.units
  have hu65 := hu65_of hr
  have hu66 := hu66_of hr
  exact (bss_cons (bs_set (i := 1) nd rfl (.inl rfl) (br_dict (.cons (br_bin op_sub o_sub (bB_1 call_len_seq o_len (by rfl) Z.m_len PySem.boot_len (br_var 0 (.inl rfl))) br_int) br_bl .nil) (by exact List.cons_ne_nil _ _) (by decide)))
      (bss_cons (bs_for po (by rfl) (bi_range (by rfl) Z.m_range (bB_1 call_len_seq o_len (by rfl) Z.m_len PySem.boot_len (br_var 0 (.inl rfl)))) (bg_name (i := 2) nd rfl (.inl rfl)) (bss_cons (bs_set (i := 3) nd rfl (.inl rfl) (br_bin op_sub o_sub (br_bin op_sub o_sub (bB_1 call_len_seq o_len (by rfl) Z.m_len PySem.boot_len (br_var 0 (.inl rfl))) br_int) (br_var 2 (.inl rfl))))
      (bss_one (bs_if (bt_din hu (br_var 3 (.inl rfl)) (br_var 1 (.inl rfl))) (bss_one (bs_for po (by rfl) (bi_tup (br_call (FnOk.pop (ok_lines_named Z)) (hr.mono (by decide)) (by rfl) Z.g_lines_named Z.F_lines_named.kp Z.b_lines_named tk (br_acons (br_ix (br_var 0 (.inl rfl)) (br_var 3 (.inl rfl)) (fun _ _ => rfl)) br_anil))) (bg_name (i := 4) nd rfl (.inl rfl)) (bss_one (bs_putD hu (br_var 1 (.inl rfl)) (br_var 4 (.inl rfl)) br_bl)))) bss_nil))))
      (bss_cons (bs_set (i := 5) nd rfl (.inr rfl) br_dict0)
      (bss_cons (bs_set (i := 6) nd rfl (.inl rfl) (br_Lc (br_lst br_anil)))
      (bss_cons (bs_for po (by rfl) (bi_range (by rfl) Z.m_range (bB_1 call_len_seq o_len (by rfl) Z.m_len PySem.boot_len (br_var 0 (.inl rfl)))) (bg_name (i := 3) nd rfl (.inl rfl)) (bss_one (bs_if (bt_din hu (br_var 3 (.inl rfl)) (br_var 1 (.inl rfl))) (bss_cons (bs_set (i := 7) nd rfl (.inl rfl) (br_ix (br_var 0 (.inl rfl)) (br_var 3 (.inl rfl)) (fun _ _ => rfl)))
      (bss_cons (bs_if (bt_cmp op_gt o_gt (bB_1 call_len_seq o_len (by rfl) Z.m_len PySem.boot_len (br_call (FnOk.pop (ok_lines_named Z)) (hr.mono (by decide)) (by rfl) Z.g_lines_named Z.F_lines_named.kp Z.b_lines_named tk (br_acons (br_var 7 (.inl rfl)) br_anil))) br_int (nomark _)) (bss_one (bs_set (i := 7) nd rfl (.inl rfl) (bT_1 call_tuple_of o_tuple (by rfl) Z.m_tuple PyProof.Rows.boot_tuple (br_L (bl_add (br_L (br_lst (br_acons (br_ix (br_var 7 (.inl rfl)) br_int (fun _ _ => rfl)) br_anil))) (br_L (bl_comp (own := [("number", 4)]) (by rfl) nd (bi_tup (br_cutT (br_var 7 (.inl rfl)) (bo_some br_int) bo_none)) (blkOk_by (by rfl)) (fun _ _ _ _ _ => (cg_name (i := 4) (by decide) nd rfl (.inl rfl))) (fun _ _ _ _ _ => bts_nil) (fun _ _ _ _ _ => (br_dget hu (br_var 5 (.inr (.inl rfl))) (br_var 4 (.inl rfl)) (fun _ _ => rfl)))))))))) bss_nil)
      (bss_cons (bs_putD hu (br_var 5 (.inr (.inl rfl))) (br_var 3 (.inl rfl)) (bB_1 call_len_seq o_len (by rfl) Z.m_len PySem.boot_len (br_var 6 (.inl rfl))))
      (bss_one (bs_expr (br_m PySem.F.plainAttrs_list PySem.F.slot_list_append PySem.F.type_list_append mt_append ok_list o_append (br_var 6 (.inl rfl)) (br_acons (br_var 7 (.inl rfl)) br_anil))))))) bss_nil)))
      (bss_one (bs_ret (br_var 6 (.inl rfl)))))))))
theorem ok_is_of (Z : Facts K T mg) : FnOk P w K mg base (L2.CX P w) 3 Z.a_is_of Z.fd_is_of ["thing", "many"] (Br.spM K T f_is_of) := by
  refine br_def (N := ["thing", "many"]) (b := b_is_of) Z.F_is_of sc_is_of fun cdv A outer s H E hr => ?_
  have nd := sc_is_of.nd
  have tk := takes_of (E := E) (X := cxOf (L2.CX P w) P w K mg base ["thing", "many"] "is_of" (defScope (topS 23)) Z.a_is_of cdv A outer s H E) rfl rfl rfl rfl
  have po := passes_of (X := cxOf (L2.CX P w) P w K mg base ["thing", "many"] "is_of" (defScope (topS 23)) Z.a_is_of cdv A outer s H E) rfl
  have hu := hu_of hr
  have hu64 := hr.units
  have hu65 := hu65_of hr
  have hu66 := hu66_of hr
  exact (bss_one (bs_ret (br_and (br_call (FnOk.pop (ok_is_turning Z)) (hr.mono (by decide)) (by rfl) Z.g_is_turning Z.F_is_turning.kp Z.b_is_turning tk (br_acons (br_var 0 (.inl rfl)) br_anil)) (br_one (br_cmp op_eq o_eqS (bB_1 call_len_seq o_len (by rfl) Z.m_len PySem.boot_len (br_var 0 (.inl rfl))) (br_var 1 (.inl rfl)) (nomark _))))))
theorem ok_looked_makers (Z : Facts K T mg) : FnOk P w K mg base (L2.CX P w) 4 Z.a_looked_makers Z.fd_looked_makers ["many", "makers"] (Br.spM K T f_looked_makers) := by
  refine br_def (N := ["many", "makers", "one"]) (b := b_looked_makers) Z.F_looked_makers sc_looked_makers fun cdv A outer s H E hr => ?_
  have nd := sc_looked_makers.nd
  have tk := takes_of (E := E) (X := cxOf (L2.CX P w) P w K mg base ["many", "makers", "one"] "looked_makers" (defScope (topS 24)) Z.a_looked_makers cdv A outer s H E) rfl rfl rfl rfl
  have po := passes_of (X := cxOf (L2.CX P w) P w K mg base ["many", "makers", "one"] "looked_makers" (defScope (topS 24)) Z.a_looked_makers cdv A outer s H E) rfl
  have hu := hu_of hr
  have hu64 := hr.units
  have hu65 := hu65_of hr
  have hu66 := hu66_of hr
  exact (bss_cons (bs_if (PW.pt (bw_or (bt_not (bt_val (br_call (FnOk.pop (ok_is_whole Z)) (hr.mono (by decide)) (by rfl) Z.g_is_whole Z.F_is_whole.kp Z.b_is_whole tk (br_acons (br_var 0 (.inl rfl)) br_anil)))) (bw_1 (bt_not (bt_chain op_le op_le o_le o_le br_int (br_var 0 (.inl rfl)) (br_gint (by rfl) Z.c_MOST_PLACES)))))) (bss_one (bs_raise (by rfl) tk Z.tX_NoGroup (pmk_own PySem.F.excBase_ValueError Z.xX_NoGroup Z.gX_NoGroup Z.kX_NoGroup (raises_own Z.bX_NoGroup Z.yX_NoGroup) (by rfl)))) bss_nil)
      (bss_cons (bs_if (PW.pt (bw_or (bt_not (bt_val (br_isa (t := .list) PyProof.Rows.boot_list (by rfl) Z.m_isinstance (by rfl) Z.m_list (br_var 1 (.inl rfl))))) (bw_1 (bt_cmp op_gt o_gt (bB_1 call_len_seq o_len (by rfl) Z.m_len PySem.boot_len (br_var 1 (.inl rfl))) (br_gint (by rfl) Z.c_MOST_MAKERS) (nomark _))))) (bss_one (bs_raise (by rfl) tk Z.tX_NoGroup (pmk_own PySem.F.excBase_ValueError Z.xX_NoGroup Z.gX_NoGroup Z.kX_NoGroup (raises_own Z.bX_NoGroup Z.yX_NoGroup) (by rfl)))) bss_nil)
      (bss_cons (bs_for po (by rfl) (bi_list (br_var 1 (.inl rfl))) (bg_name (i := 2) nd rfl (.inl rfl)) (bss_one (bs_if (bt_not (bt_val (br_call (FnOk.pop (ok_is_of Z)) (hr.mono (by decide)) (by rfl) Z.g_is_of Z.F_is_of.kp Z.b_is_of tk (br_acons (br_var 2 (.inl rfl)) (br_acons (br_var 0 (.inl rfl)) br_anil))))) (bss_one (bs_raise (by rfl) tk Z.tX_NoGroup (pmk_own PySem.F.excBase_ValueError Z.xX_NoGroup Z.gX_NoGroup Z.kX_NoGroup (raises_own Z.bX_NoGroup Z.yX_NoGroup) (by rfl)))) bss_nil)))
      (bss_one (bs_ret (br_L (br_list (by rfl) Z.m_list (br_var 1 (.inl rfl)))))))))
theorem ok_Group___init__ (Z : Facts K T mg) : FnOk P w K mg base (L2.CX P w) 6 Z.a_Group___init__ Z.fd_Group___init__ ["self", "many", "makers"] (Br.spM K T f_Group___init__) := by
  refine br_def (N := ["self", "many", "makers", "k", "step"]) (b := b_Group___init__) Z.F_Group___init__ sc_Group___init__ fun cdv A outer s H E hr => ?_
  have nd := sc_Group___init__.nd
  have tk := takes_of (E := E) (X := cxOf (L2.CX P w) P w K mg base ["self", "many", "makers", "k", "step"] "Group.__init__" (defScope (inClass (topS 25) 0)) Z.a_Group___init__ cdv A outer s H E) rfl rfl rfl rfl
  have po := passes_of (X := cxOf (L2.CX P w) P w K mg base ["self", "many", "makers", "k", "step"] "Group.__init__" (defScope (inClass (topS 25) 0)) Z.a_Group___init__ cdv A outer s H E) rfl
  have hu := hu_of hr
  have hu64 := hr.units
  have hu65 := hu65_of hr
  have hu66 := hu66_of hr
  exact (bss_cons (bs_fld Z.oC_Group (i := 0) rfl (br_var 0 (.inl rfl)) (br_call (FnOk.pop (ok_looked_makers Z)) (hr.mono (by decide)) (by rfl) Z.g_looked_makers Z.F_looked_makers.kp Z.b_looked_makers tk (br_acons (br_var 1 (.inl rfl)) (br_acons (br_var 2 (.inl rfl)) br_anil))))
      (bss_cons (bs_fld Z.oC_Group (i := 1) rfl (br_var 0 (.inl rfl)) (br_var 1 (.inl rfl)))
      (bss_cons (bs_fld Z.oC_Group (i := 2) rfl (br_var 0 (.inl rfl)) (br_make Z.oC_Chain Z.mk_Chain (ok_Chain___init__ Z) (hr.mono (by decide)) (by rfl) Z.gC_Chain Z.b_Chain___init__ tk (br_acons (br_var 1 (.inl rfl)) br_anil)))
      (bss_cons (bs_for po (by rfl) (bi_range (by rfl) Z.m_range (bB_1 call_len_seq o_len (by rfl) Z.m_len PySem.boot_len (br_fld Z.oC_Group (i := 0) rfl (br_var 0 (.inl rfl))))) (bg_name (i := 3) nd rfl (.inl rfl)) (bss_one (bs_expr (br_meth Z.oC_Chain (by decide) Z.mm_Chain_add (FnOk.pop (ok_Chain_add Z)) (hr.mono (by decide)) Z.b_Chain_add tk (br_fld Z.oC_Group (i := 2) rfl (br_var 0 (.inl rfl))) (br_acons (br_ix (br_fld Z.oC_Group (i := 0) rfl (br_var 0 (.inl rfl))) (br_var 3 (.inl rfl)) (fun _ _ => rfl)) (br_acons (br_meth Z.oC_Chain (by decide) Z.mm_Chain_noted (FnOk.pop (ok_Chain_noted Z)) (hr.mono (by decide)) Z.b_Chain_noted tk (br_fld Z.oC_Group (i := 2) rfl (br_var 0 (.inl rfl))) (br_acons (br_tup (br_acons br_str (br_acons (br_var 3 (.inl rfl)) br_anil))) br_anil)) br_anil))))))
      (bss_one (bs_fld Z.oC_Group (i := 3) rfl (br_var 0 (.inl rfl)) (br_L (bl_comp (own := [("step", 4)]) (by rfl) nd (bi_list (br_fld Z.oC_Chain (i := 2) rfl (br_fld Z.oC_Group (i := 2) rfl (br_var 0 (.inl rfl))))) (blkOk_by (by rfl)) (fun _ _ _ _ _ => (cg_name (i := 4) (by decide) nd rfl (.inl rfl))) (fun _ _ _ _ _ => (bts_one (bt_cmp op_gt o_gt (bB_1 call_lenD o_lenD (by rfl) Z.m_len PySem.boot_len (br_fld Z.oC_Step (i := 1) rfl (br_var 4 (.inl rfl)))) br_int (nomark _)))) (fun _ _ _ _ _ => (br_var 4 (.inl rfl)))))))))))
theorem ok_Group_told (Z : Facts K T mg) : FnOk P w K mg base (L2.CX P w) 1 Z.a_Group_told Z.fd_Group_told ["self"] (Br.spM K T f_Group_told) := by
  refine br_def (N := ["self"]) (b := b_Group_told) Z.F_Group_told sc_Group_told fun cdv A outer s H E hr => ?_
  have nd := sc_Group_told.nd
  have tk := takes_of (E := E) (X := cxOf (L2.CX P w) P w K mg base ["self"] "Group.told" (defScope (inClass (topS 25) 1)) Z.a_Group_told cdv A outer s H E) rfl rfl rfl rfl
  have po := passes_of (X := cxOf (L2.CX P w) P w K mg base ["self"] "Group.told" (defScope (inClass (topS 25) 1)) Z.a_Group_told cdv A outer s H E) rfl
  have hu := hu_of hr
  have hu64 := hr.units
  have hu65 := hu65_of hr
  have hu66 := hu66_of hr
  exact (bss_one (bs_ret (br_L (br_list (by rfl) Z.m_list (br_fld Z.oC_Group (i := 0) rfl (br_var 0 (.inl rfl)))))))
theorem ok_Group_size (Z : Facts K T mg) : FnOk P w K mg base (L2.CX P w) 2 Z.a_Group_size Z.fd_Group_size ["self"] (Br.spM K T f_Group_size) := by
  refine br_def (N := ["self"]) (b := b_Group_size) Z.F_Group_size sc_Group_size fun cdv A outer s H E hr => ?_
  have nd := sc_Group_size.nd
  have tk := takes_of (E := E) (X := cxOf (L2.CX P w) P w K mg base ["self"] "Group.size" (defScope (inClass (topS 25) 2)) Z.a_Group_size cdv A outer s H E) rfl rfl rfl rfl
  have po := passes_of (X := cxOf (L2.CX P w) P w K mg base ["self"] "Group.size" (defScope (inClass (topS 25) 2)) Z.a_Group_size cdv A outer s H E) rfl
  have hu := hu_of hr
  have hu64 := hr.units
  have hu65 := hu65_of hr
  have hu66 := hu66_of hr
  exact (bss_one (bs_ret (br_meth0 Z.oC_Chain (by decide) Z.mm_Chain_size (FnOk.pop (ok_Chain_size Z)) (hr.mono (by decide)) Z.b_Chain_size tk (br_fld Z.oC_Group (i := 2) rfl (br_var 0 (.inl rfl))))))
theorem ok_Group_has (Z : Facts K T mg) : FnOk P w K mg base (L2.CX P w) 4 Z.a_Group_has Z.fd_Group_has ["self", "thing"] (Br.spM K T f_Group_has) := by
  refine br_def (N := ["self", "thing"]) (b := b_Group_has) Z.F_Group_has sc_Group_has fun cdv A outer s H E hr => ?_
  have nd := sc_Group_has.nd
  have tk := takes_of (E := E) (X := cxOf (L2.CX P w) P w K mg base ["self", "thing"] "Group.has" (defScope (inClass (topS 25) 3)) Z.a_Group_has cdv A outer s H E) rfl rfl rfl rfl
  have po := passes_of (X := cxOf (L2.CX P w) P w K mg base ["self", "thing"] "Group.has" (defScope (inClass (topS 25) 3)) Z.a_Group_has cdv A outer s H E) rfl
  have hu := hu_of hr
  have hu64 := hr.units
  have hu65 := hu65_of hr
  have hu66 := hu66_of hr
  exact (bss_one (bs_ret (br_and (br_call (FnOk.pop (ok_is_of Z)) (hr.mono (by decide)) (by rfl) Z.g_is_of Z.F_is_of.kp Z.b_is_of tk (br_acons (br_var 1 (.inl rfl)) (br_acons (br_fld Z.oC_Group (i := 1) rfl (br_var 0 (.inl rfl))) br_anil))) (br_one (br_meth Z.oC_Chain (by decide) Z.mm_Chain_has (FnOk.pop (ok_Chain_has Z)) (hr.mono (by decide)) Z.b_Chain_has tk (br_fld Z.oC_Group (i := 2) rfl (br_var 0 (.inl rfl))) (br_acons (br_var 1 (.inl rfl)) br_anil))))))
theorem ok_Group_base (Z : Facts K T mg) : FnOk P w K mg base (L2.CX P w) 1 Z.a_Group_base Z.fd_Group_base ["self"] (Br.spM K T f_Group_base) := by
  refine br_def (N := ["self", "step"]) (b := b_Group_base) Z.F_Group_base sc_Group_base fun cdv A outer s H E hr => ?_
  have nd := sc_Group_base.nd
  have tk := takes_of (E := E) (X := cxOf (L2.CX P w) P w K mg base ["self", "step"] "Group.base" (defScope (inClass (topS 25) 4)) Z.a_Group_base cdv A outer s H E) rfl rfl rfl rfl
  have po := passes_of (X := cxOf (L2.CX P w) P w K mg base ["self", "step"] "Group.base" (defScope (inClass (topS 25) 4)) Z.a_Group_base cdv A outer s H E) rfl
  have hu := hu_of hr
  have hu64 := hr.units
  have hu65 := hu65_of hr
  have hu66 := hu66_of hr
  exact (bss_one (bs_ret (br_L (bl_comp (own := [("step", 1)]) (by rfl) nd (bi_list (br_fld Z.oC_Group (i := 3) rfl (br_var 0 (.inl rfl)))) (blkOk_by (by rfl)) (fun _ _ _ _ _ => (cg_name (i := 1) (by decide) nd rfl (.inl rfl))) (fun _ _ _ _ _ => bts_nil) (fun _ _ _ _ _ => (br_fld Z.oC_Step (i := 0) rfl (br_var 1 (.inl rfl))))))))
theorem ok_Group_ring_at (Z : Facts K T mg) : FnOk P w K mg base (L2.CX P w) 1 Z.a_Group_ring_at Z.fd_Group_ring_at ["self", "place"] (Br.spM K T f_Group_ring_at) := by
  refine br_def (N := ["self", "place"]) (b := b_Group_ring_at) Z.F_Group_ring_at sc_Group_ring_at fun cdv A outer s H E hr => ?_
  have nd := sc_Group_ring_at.nd
  have tk := takes_of (E := E) (X := cxOf (L2.CX P w) P w K mg base ["self", "place"] "Group.ring_at" (defScope (inClass (topS 25) 5)) Z.a_Group_ring_at cdv A outer s H E) rfl rfl rfl rfl
  have po := passes_of (X := cxOf (L2.CX P w) P w K mg base ["self", "place"] "Group.ring_at" (defScope (inClass (topS 25) 5)) Z.a_Group_ring_at cdv A outer s H E) rfl
  have hu := hu_of hr
  have hu64 := hr.units
  have hu65 := hu65_of hr
  have hu66 := hu66_of hr
  exact (bss_one (bs_ret (br_L (bl_sortK (by rfl) (by rfl) Z.m_sorted (br_fld Z.oC_Step (i := 1) rfl (br_ix (br_fld Z.oC_Chain (i := 2) rfl (br_fld Z.oC_Group (i := 2) rfl (br_var 0 (.inl rfl)))) (br_var 1 (.inl rfl)) (fun _ _ => rfl)))))))
theorem ok_Group_lift (Z : Facts K T mg) : FnOk P w K mg base (L2.CX P w) 3 Z.a_Group_lift Z.fd_Group_lift ["self", "place", "to"] (Br.spM K T f_Group_lift) := by
  refine br_def (N := ["self", "place", "to", "lifts"]) (b := b_Group_lift) Z.F_Group_lift sc_Group_lift fun cdv A outer s H E hr => ?_
  have nd := sc_Group_lift.nd
  have tk := takes_of (E := E) (X := cxOf (L2.CX P w) P w K mg base ["self", "place", "to", "lifts"] "Group.lift" (defScope (inClass (topS 25) 6)) Z.a_Group_lift cdv A outer s H E) rfl rfl rfl rfl
  have po := passes_of (X := cxOf (L2.CX P w) P w K mg base ["self", "place", "to", "lifts"] "Group.lift" (defScope (inClass (topS 25) 6)) Z.a_Group_lift cdv A outer s H E) rfl
  have hu := hu_of hr
  have hu64 := hr.units
  have hu65 := hu65_of hr
  have hu66 := hu66_of hr
  exact (bss_cons (bs_set (i := 3) nd rfl (.inl rfl) (br_fld Z.oC_Step (i := 1) rfl (br_ix (br_fld Z.oC_Chain (i := 2) rfl (br_fld Z.oC_Group (i := 2) rfl (br_var 0 (.inl rfl)))) (br_var 1 (.inl rfl)) (fun _ _ => rfl))))
      (bss_cons (bs_if (bt_dnotin hu (br_var 2 (.inl rfl)) (br_var 3 (.inl rfl))) (bss_one (bs_raise (by rfl) tk Z.tX_NotIn (pmk_own PySem.F.excBase_ValueError Z.xX_NotIn Z.gX_NotIn Z.kX_NotIn (raises_own Z.bX_NotIn Z.yX_NotIn) (by rfl)))) bss_nil)
      (bss_one (bs_ret (br_meth Z.oC_Chain (by decide) Z.mm_Chain_least (FnOk.pop (ok_Chain_least Z)) (hr.mono (by decide)) Z.b_Chain_least tk (br_fld Z.oC_Group (i := 2) rfl (br_var 0 (.inl rfl))) (br_acons (br_ix (br_dget hu (br_var 3 (.inl rfl)) (br_var 2 (.inl rfl)) (fun _ _ => rfl)) br_int (fun _ _ => rfl)) (br_acons (br_bin op_add o_add (br_var 1 (.inl rfl)) br_int) br_anil)))))))
theorem ok_Group_ground (Z : Facts K T mg) : FnOk P w K mg base (L2.CX P w) 4 Z.a_Group_ground Z.fd_Group_ground ["self"] (Br.spM K T f_Group_ground) := by
  refine br_def (N := ["self", "to", "place"]) (b := b_Group_ground) Z.F_Group_ground sc_Group_ground fun cdv A outer s H E hr => ?_
  have nd := sc_Group_ground.nd
  have tk := takes_of (E := E) (X := cxOf (L2.CX P w) P w K mg base ["self", "to", "place"] "Group.ground" (defScope (inClass (topS 25) 7)) Z.a_Group_ground cdv A outer s H E) rfl rfl rfl rfl
  have po := passes_of (X := cxOf (L2.CX P w) P w K mg base ["self", "to", "place"] "Group.ground" (defScope (inClass (topS 25) 7)) Z.a_Group_ground cdv A outer s H E) rfl
  have hu := hu_of hr
  have hu64 := hr.units
  have hu65 := hu65_of hr
  have hu66 := hu66_of hr
  exact (bss_one (bs_ret (br_L (bl_comp (own := [("place", 2)]) (by rfl) nd (bi_list (br_meth0 Z.oC_Group (by decide) Z.mm_Group_base (FnOk.pop (ok_Group_base Z)) (hr.mono (by decide)) Z.b_Group_base tk (br_var 0 (.inr (.inl rfl))))) (blkOk_by (by rfl)) (fun _ _ _ _ _ => (cg_name (i := 2) (by decide) nd rfl (.inr rfl))) (fun _ _ _ _ _ => bts_nil) (fun _ _ _ _ _ => (br_tup (br_acons (br_var 2 (.inr (.inl rfl))) (br_acons (br_L (bl_comp (own := [("to", 1)]) (by rfl) nd (bi_list (br_meth Z.oC_Group (by decide) Z.mm_Group_ring_at (FnOk.pop (ok_Group_ring_at Z)) (hr.mono (by decide)) Z.b_Group_ring_at takes0 (br_var 0 (.inr (.inl rfl))) (br_acons (br_var 2 (.inr (.inl rfl))) br_anil))) (blkOk_by (by rfl)) (fun _ _ _ _ _ => (cg_name (i := 1) (by decide) nd rfl (.inl rfl))) (fun _ _ _ _ _ => bts_nil) (fun _ _ _ _ _ => (br_meth Z.oC_Group (by decide) Z.mm_Group_lift (FnOk.pop (ok_Group_lift Z)) (hr.mono (by decide)) Z.b_Group_lift takes0 (br_var 0 (.inr (.inl rfl))) (br_acons (br_var 2 (.inr (.inl rfl))) (br_acons (br_var 1 (.inl rfl)) br_anil)))))) br_anil))))))))
theorem ok_Group_least (Z : Facts K T mg) : FnOk P w K mg base (L2.CX P w) 4 Z.a_Group_least Z.fd_Group_least ["self", "thing"] (Br.spM K T f_Group_least) := by
  refine br_def (N := ["self", "thing"]) (b := b_Group_least) Z.F_Group_least sc_Group_least fun cdv A outer s H E hr => ?_
  have nd := sc_Group_least.nd
  have tk := takes_of (E := E) (X := cxOf (L2.CX P w) P w K mg base ["self", "thing"] "Group.least" (defScope (inClass (topS 25) 8)) Z.a_Group_least cdv A outer s H E) rfl rfl rfl rfl
  have po := passes_of (X := cxOf (L2.CX P w) P w K mg base ["self", "thing"] "Group.least" (defScope (inClass (topS 25) 8)) Z.a_Group_least cdv A outer s H E) rfl
  have hu := hu_of hr
  have hu64 := hr.units
  have hu65 := hu65_of hr
  have hu66 := hu66_of hr
  exact (bss_cons (bs_if (bt_not (bt_val (br_call (FnOk.pop (ok_is_of Z)) (hr.mono (by decide)) (by rfl) Z.g_is_of Z.F_is_of.kp Z.b_is_of tk (br_acons (br_var 1 (.inl rfl)) (br_acons (br_fld Z.oC_Group (i := 1) rfl (br_var 0 (.inl rfl))) br_anil))))) (bss_one (bs_raise (by rfl) tk Z.tX_NoTurning (pmk_own PySem.F.excBase_ValueError Z.xX_NoTurning Z.gX_NoTurning Z.kX_NoTurning (raises_own Z.bX_NoTurning Z.yX_NoTurning) (by rfl)))) bss_nil)
      (bss_one (bs_ret (br_meth Z.oC_Chain (by decide) Z.mm_Chain_least (FnOk.pop (ok_Chain_least Z)) (hr.mono (by decide)) Z.b_Chain_least tk (br_fld Z.oC_Group (i := 2) rfl (br_var 0 (.inl rfl))) (br_acons (br_var 1 (.inl rfl)) (br_acons br_int br_anil))))))
theorem ok_Group_nth (Z : Facts K T mg) : FnOk P w K mg base (L2.CX P w) 3 Z.a_Group_nth Z.fd_Group_nth ["self", "k"] (Br.spM K T f_Group_nth) := by
  refine br_def (N := ["self", "k", "rest", "found", "step", "number", "rising", "to", "at"]) (b := b_Group_nth) Z.F_Group_nth sc_Group_nth fun cdv A outer s H E hr => ?_
  have nd := sc_Group_nth.nd
  have tk := takes_of (E := E) (X := cxOf (L2.CX P w) P w K mg base ["self", "k", "rest", "found", "step", "number", "rising", "to", "at"] "Group.nth" (defScope (inClass (topS 25) 9)) Z.a_Group_nth cdv A outer s H E) rfl rfl rfl rfl
  have po := passes_of (X := cxOf (L2.CX P w) P w K mg base ["self", "k", "rest", "found", "step", "number", "rising", "to", "at"] "Group.nth" (defScope (inClass (topS 25) 9)) Z.a_Group_nth cdv A outer s H E) rfl
  have hu := hu_of hr
  have hu64 := hr.units
  have hu65 := hu65_of hr
  have hu66 := hu66_of hr
  exact (bss_cons (bs_if (PW.pt (bw_or (bt_not (bt_val (br_call (FnOk.pop (ok_is_whole Z)) (hr.mono (by decide)) (by rfl) Z.g_is_whole Z.F_is_whole.kp Z.b_is_whole tk (br_acons (br_var 1 (.inl rfl)) br_anil)))) (bw_1 (bt_not (bt_chain op_le op_lt o_le o_lt br_int (br_var 1 (.inl rfl)) (br_meth0 Z.oC_Group (by decide) Z.mm_Group_size (FnOk.pop (ok_Group_size Z)) (hr.mono (by decide)) Z.b_Group_size tk (br_var 0 (.inl rfl)))))))) (bss_one (bs_raise (by rfl) tk Z.tX_NoNumber (pmk_own PySem.F.excBase_ValueError Z.xX_NoNumber Z.gX_NoNumber Z.kX_NoNumber (raises_own Z.bX_NoNumber Z.yX_NoNumber) (by rfl)))) bss_nil)
      (bss_cons (bs_set (i := 2) nd rfl (.inl rfl) (br_meth0 Z.oC_Group (by decide) Z.mm_Group_size (FnOk.pop (ok_Group_size Z)) (hr.mono (by decide)) Z.b_Group_size tk (br_var 0 (.inl rfl))))
      (bss_cons (bs_set (i := 3) nd rfl (.inr rfl) (br_call (FnOk.pop (ok_still Z)) (hr.mono (by decide)) (by rfl) Z.g_still Z.F_still.kp Z.b_still tk (br_acons (br_fld Z.oC_Group (i := 1) rfl (br_var 0 (.inl rfl))) br_anil)))
      (bss_cons (bs_for po (by rfl) (bi_list (br_fld Z.oC_Group (i := 3) rfl (br_var 0 (.inl rfl)))) (bg_name (i := 4) nd rfl (.inl rfl)) (bss_cons (bs_set (i := 2) nd rfl (.inl rfl) (br_bin op_fdivW o_div (br_var 2 (.inl rfl)) (bB_1 call_lenD o_lenD (by rfl) Z.m_len PySem.boot_len (br_fld Z.oC_Step (i := 1) rfl (br_var 4 (.inl rfl))))))
      (bss_cons (bs_asg (bB_2 call_divmodW o_divmod (by rfl) Z.m_divmod PyProof.Rows.boot_divmod (br_var 1 (.inl rfl)) (br_var 2 (.inl rfl))) (bg_tup (by rfl) (bgs_cons (bg_name (i := 5) nd rfl (.inl rfl)) (bgs_cons (bg_name (i := 1) nd rfl (.inl rfl)) bgs_nil))))
      (bss_cons (bs_set (i := 6) nd rfl (.inl rfl) (br_L (bl_sorted hu66 (by rfl) Z.m_sorted (br_L (bl_lock (bl_comp (own := [("to", 7)]) (by rfl) nd (bi_keys (br_fld Z.oC_Step (i := 1) rfl (br_var 4 (.inl rfl)))) (blkOk_by (by rfl)) (fun _ _ _ _ _ => (cg_name (i := 7) (by decide) nd rfl (.inl rfl))) (fun _ _ _ _ _ => bts_nil) (fun _ _ _ _ _ => (br_tup (br_acons (br_ix (br_var 3 (.inr (.inl rfl))) (br_var 7 (.inl rfl)) (fun _ _ => rfl)) (br_acons (br_var 7 (.inl rfl)) br_anil))))))))))
      (bss_cons (bs_set (i := 8) nd rfl (.inl rfl) (br_ix (br_ix (br_var 6 (.inl rfl)) (br_var 5 (.inl rfl)) (fun _ _ => rfl)) br_int (fun _ _ => rfl)))
      (bss_one (bs_if (bt_cmp op_ne o_neS (br_var 8 (.inl rfl)) (br_fld Z.oC_Step (i := 0) rfl (br_var 4 (.inl rfl))) (nomark _)) (bss_one (bs_set (i := 3) nd rfl (.inr rfl) (br_call (FnOk.pop (ok_behind Z)) (hr.mono (by decide)) (by rfl) Z.g_behind Z.F_behind.kp Z.b_behind tk (br_acons (br_ix (br_dget hu (br_fld Z.oC_Step (i := 1) rfl (br_var 4 (.inl rfl))) (br_var 8 (.inl rfl)) (fun _ _ => rfl)) br_int (fun _ _ => rfl)) (br_acons (br_var 3 (.inr (.inl rfl))) br_anil))))) bss_nil)))))))
      (bss_one (bs_ret (br_var 3 (.inr (.inl rfl)))))))))
theorem ok_Group_place_of (Z : Facts K T mg) : FnOk P w K mg base (L2.CX P w) 5 Z.a_Group_place_of Z.fd_Group_place_of ["self", "thing"] (Br.spM K T f_Group_place_of) := by
  refine br_def (N := ["self", "thing", "rest", "found", "number", "step", "goal", "at", "to"]) (b := b_Group_place_of) Z.F_Group_place_of sc_Group_place_of fun cdv A outer s H E hr => ?_
  have nd := sc_Group_place_of.nd
  have tk := takes_of (E := E) (X := cxOf (L2.CX P w) P w K mg base ["self", "thing", "rest", "found", "number", "step", "goal", "at", "to"] "Group.place_of" (defScope (inClass (topS 25) 10)) Z.a_Group_place_of cdv A outer s H E) rfl rfl rfl rfl
  have po := passes_of (X := cxOf (L2.CX P w) P w K mg base ["self", "thing", "rest", "found", "number", "step", "goal", "at", "to"] "Group.place_of" (defScope (inClass (topS 25) 10)) Z.a_Group_place_of cdv A outer s H E) rfl
  have hu := hu_of hr
  have hu64 := hr.units
  have hu65 := hu65_of hr
  have hu66 := hu66_of hr
  exact (bss_cons (bs_if (bt_not (bt_val (br_meth Z.oC_Group (by decide) Z.mm_Group_has (FnOk.pop (ok_Group_has Z)) (hr.mono (by decide)) Z.b_Group_has tk (br_var 0 (.inl rfl)) (br_acons (br_var 1 (.inl rfl)) br_anil)))) (bss_one (bs_raise (by rfl) tk Z.tX_NotIn (pmk_own PySem.F.excBase_ValueError Z.xX_NotIn Z.gX_NotIn Z.kX_NotIn (raises_own Z.bX_NotIn Z.yX_NotIn) (by rfl)))) bss_nil)
      (bss_cons (bs_set (i := 2) nd rfl (.inl rfl) (br_meth0 Z.oC_Group (by decide) Z.mm_Group_size (FnOk.pop (ok_Group_size Z)) (hr.mono (by decide)) Z.b_Group_size tk (br_var 0 (.inl rfl))))
      (bss_cons (bs_set (i := 3) nd rfl (.inl rfl) (br_call (FnOk.pop (ok_still Z)) (hr.mono (by decide)) (by rfl) Z.g_still Z.F_still.kp Z.b_still tk (br_acons (br_fld Z.oC_Group (i := 1) rfl (br_var 0 (.inl rfl))) br_anil)))
      (bss_cons (bs_set (i := 4) nd rfl (.inl rfl) br_int)
      (bss_cons (bs_for po (by rfl) (bi_list (br_fld Z.oC_Group (i := 3) rfl (br_var 0 (.inl rfl)))) (bg_name (i := 5) nd rfl (.inl rfl)) (bss_cons (bs_set (i := 2) nd rfl (.inl rfl) (br_bin op_fdivW o_div (br_var 2 (.inl rfl)) (bB_1 call_lenD o_lenD (by rfl) Z.m_len PySem.boot_len (br_fld Z.oC_Step (i := 1) rfl (br_var 5 (.inl rfl))))))
      (bss_cons (bs_set (i := 6) nd rfl (.inl rfl) (br_ix (br_var 1 (.inl rfl)) (br_fld Z.oC_Step (i := 0) rfl (br_var 5 (.inl rfl))) (fun _ _ => rfl)))
      (bss_cons (bs_set (i := 7) nd rfl (.inl rfl) (br_fld Z.oC_Step (i := 0) rfl (br_var 5 (.inl rfl))))
      (bss_cons (bs_lock (bs_for po (by rfl) (bi_keys (br_fld Z.oC_Step (i := 1) rfl (br_var 5 (.inl rfl)))) (bg_name (i := 8) nd rfl (.inl rfl)) (bss_cons (bs_if (bt_cmp op_lt o_lt (br_ix (br_var 3 (.inl rfl)) (br_var 8 (.inl rfl)) (fun _ _ => rfl)) (br_var 6 (.inl rfl)) (nomark _)) (bss_one (bs_aug (i := 4) nd rfl (.inl rfl) (br_var 2 (.inl rfl)) ip_add g_add)) bss_nil)
      (bss_one (bs_if (bt_cmp op_eq o_eqS (br_ix (br_var 3 (.inl rfl)) (br_var 8 (.inl rfl)) (fun _ _ => rfl)) (br_var 6 (.inl rfl)) (nomark _)) (bss_one (bs_set (i := 7) nd rfl (.inl rfl) (br_var 8 (.inl rfl)))) bss_nil)))))
      (bss_one (bs_if (bt_cmp op_ne o_neS (br_var 7 (.inl rfl)) (br_fld Z.oC_Step (i := 0) rfl (br_var 5 (.inl rfl))) (nomark _)) (bss_one (bs_set (i := 3) nd rfl (.inl rfl) (br_call (FnOk.pop (ok_behind Z)) (hr.mono (by decide)) (by rfl) Z.g_behind Z.F_behind.kp Z.b_behind tk (br_acons (br_ix (br_dget hu (br_fld Z.oC_Step (i := 1) rfl (br_var 5 (.inl rfl))) (br_var 7 (.inl rfl)) (fun _ _ => rfl)) br_int (fun _ _ => rfl)) (br_acons (br_var 3 (.inl rfl)) br_anil))))) bss_nil)))))))
      (bss_one (bs_ret (br_var 4 (.inl rfl)))))))))
theorem ok_Group_recipe (Z : Facts K T mg) : FnOk P w K mg base (L2.CX P w) 5 Z.a_Group_recipe Z.fd_Group_recipe ["self", "thing"] (Br.spM K T f_Group_recipe) := by
  refine br_def (N := ["self", "thing", "used", "step", "to", "lift", "line", "lines", "last"]) (b := b_Group_recipe) Z.F_Group_recipe sc_Group_recipe fun cdv A outer s H E hr => ?_
  have nd := sc_Group_recipe.nd
  have tk := takes_of (E := E) (X := cxOf (L2.CX P w) P w K mg base ["self", "thing", "used", "step", "to", "lift", "line", "lines", "last"] "Group.recipe" (defScope (inClass (topS 25) 12)) Z.a_Group_recipe cdv A outer s H E) rfl rfl rfl rfl
  have po := passes_of (X := cxOf (L2.CX P w) P w K mg base ["self", "thing", "used", "step", "to", "lift", "line", "lines", "last"] "Group.recipe" (defScope (inClass (topS 25) 12)) Z.a_Group_recipe cdv A outer s H E) rfl
  have hu := hu_of hr
  have hu64 := hr.units
  have hu65 := hu65_of hr
  have hu66 := hu66_of hr
  exact (bss_cons (bs_if (bt_not (bt_val (br_meth Z.oC_Group (by decide) Z.mm_Group_has (FnOk.pop (ok_Group_has Z)) (hr.mono (by decide)) Z.b_Group_has tk (br_var 0 (.inl rfl)) (br_acons (br_var 1 (.inl rfl)) br_anil)))) (bss_one (bs_raise (by rfl) tk Z.tX_NotIn (pmk_own PySem.F.excBase_ValueError Z.xX_NotIn Z.gX_NotIn Z.kX_NotIn (raises_own Z.bX_NotIn Z.yX_NotIn) (by rfl)))) bss_nil)
      (bss_cons (bs_set (i := 2) nd rfl (.inl rfl) (br_Lc (br_lst br_anil)))
      (bss_cons (bs_for po (by rfl) (bi_list (br_fld Z.oC_Group (i := 3) rfl (br_var 0 (.inl rfl)))) (bg_name (i := 3) nd rfl (.inl rfl)) (bss_cons (bs_set (i := 4) nd rfl (.inl rfl) (br_ix (br_var 1 (.inl rfl)) (br_fld Z.oC_Step (i := 0) rfl (br_var 3 (.inl rfl))) (fun _ _ => rfl)))
      (bss_one (bs_if (bt_cmp op_ne o_neS (br_var 4 (.inl rfl)) (br_fld Z.oC_Step (i := 0) rfl (br_var 3 (.inl rfl))) (nomark _)) (bss_cons (bs_asg (br_dget hu (br_fld Z.oC_Step (i := 1) rfl (br_var 3 (.inl rfl))) (br_var 4 (.inl rfl)) (fun _ _ => rfl)) (bg_tup (by rfl) (bgs_cons (bg_name (i := 5) nd rfl (.inl rfl)) (bgs_cons (bg_name (i := 6) nd rfl (.inl rfl)) bgs_nil))))
      (bss_cons (bs_expr (br_m PySem.F.plainAttrs_list PySem.F.slot_list_append PySem.F.type_list_append mt_append ok_list o_append (br_var 2 (.inl rfl)) (br_acons (br_var 6 (.inl rfl)) br_anil)))
      (bss_one (bs_set (i := 1) nd rfl (.inl rfl) (br_call (FnOk.pop (ok_behind Z)) (hr.mono (by decide)) (by rfl) Z.g_behind Z.F_behind.kp Z.b_behind tk (br_acons (br_var 1 (.inl rfl)) (br_acons (br_call (FnOk.pop (ok_back Z)) (hr.mono (by decide)) (by rfl) Z.g_back Z.F_back.kp Z.b_back tk (br_acons (br_var 5 (.inl rfl)) br_anil)) br_anil))))))) bss_nil))))
      (bss_cons (bs_if (bt_cmp (op_eqD hu64) o_eq (br_var 2 (.inl rfl)) (br_L (br_lst br_anil)) (nomark _)) (bss_one (bs_ret (br_L (br_lst (br_acons (br_tup (br_acons br_str br_anil)) br_anil))))) bss_nil)
      (bss_cons (bs_set (i := 7) nd rfl (.inl rfl) (br_Lc (br_list (by rfl) Z.m_list (br_fld Z.oC_Chain (i := 1) rfl (br_fld Z.oC_Group (i := 2) rfl (br_var 0 (.inl rfl)))))))
      (bss_cons (bs_set (i := 8) nd rfl (.inl rfl) (br_m0 PySem.F.plainAttrs_list PySem.F.slot_list_pop PySem.F.type_list_pop mt_pop ok_list o_pop (br_var 2 (.inl rfl))))
      (bss_cons (bs_for po (by rfl) (bi_rev (by rfl) Z.m_reversed (br_var 2 (.inl rfl))) (bg_name (i := 6) nd rfl (.inl rfl)) (bss_cons (bs_expr (br_m PySem.F.plainAttrs_list PySem.F.slot_list_append PySem.F.type_list_append mt_append ok_list o_append (br_var 7 (.inl rfl)) (br_acons (br_tup (br_acons br_str (br_acons (br_var 8 (.inl rfl)) (br_acons (br_var 6 (.inl rfl)) br_anil)))) br_anil)))
      (bss_one (bs_set (i := 8) nd rfl (.inl rfl) (br_bin op_sub o_sub (bB_1 call_len_seq o_len (by rfl) Z.m_len PySem.boot_len (br_var 7 (.inl rfl))) br_int)))))
      (bss_one (bs_ret (br_call (FnOk.pop (ok_trimmed Z)) (hr.mono (by decide)) (by rfl) Z.g_trimmed Z.F_trimmed.kp Z.b_trimmed tk (br_acons (br_L (bl_cut (br_var 7 (.inl rfl)) bo_none (bo_some (br_bin op_add o_add (br_var 8 (.inl rfl)) br_int)))) br_anil)))))))))))
theorem ok_Group_paper (Z : Facts K T mg) : FnOk P w K mg base (L2.CX P w) 1 Z.a_Group_paper Z.fd_Group_paper ["self"] (Br.spM K T f_Group_paper) := by
  refine br_def (N := ["self", "steps", "step", "to"]) (b := b_Group_paper) Z.F_Group_paper sc_Group_paper fun cdv A outer s H E hr => ?_
  have nd := sc_Group_paper.nd
  have tk := takes_of (E := E) (X := cxOf (L2.CX P w) P w K mg base ["self", "steps", "step", "to"] "Group.paper" (defScope (inClass (topS 25) 13)) Z.a_Group_paper cdv A outer s H E) rfl rfl rfl rfl
  have po := passes_of (X := cxOf (L2.CX P w) P w K mg base ["self", "steps", "step", "to"] "Group.paper" (defScope (inClass (topS 25) 13)) Z.a_Group_paper cdv A outer s H E) rfl
  have hu := hu_of hr
  have hu64 := hr.units
  have hu65 := hu65_of hr
  have hu66 := hu66_of hr
  exact (bss_cons (bs_set (i := 1) nd rfl (.inl rfl) (br_Lc (br_lst br_anil)))
      (bss_cons (bs_for po (by rfl) (bi_list (br_fld Z.oC_Group (i := 3) rfl (br_var 0 (.inl rfl)))) (bg_name (i := 2) nd rfl (.inr rfl)) (bss_one (bs_expr (br_m PySem.F.plainAttrs_list PySem.F.slot_list_append PySem.F.type_list_append mt_append ok_list o_append (br_var 1 (.inl rfl)) (br_acons (br_tup (br_acons (br_fld Z.oC_Step (i := 0) rfl (br_var 2 (.inr (.inl rfl)))) (br_acons (br_L (bl_comp (own := [("to", 3)]) (by rfl) nd (bi_list (br_L (bl_sortK (by rfl) (by rfl) Z.m_sorted (br_fld Z.oC_Step (i := 1) rfl (br_var 2 (.inr (.inl rfl))))))) (blkOk_by (by rfl)) (fun _ _ _ _ _ => (cg_name (i := 3) (by decide) nd rfl (.inl rfl))) (fun _ _ _ _ _ => bts_nil) (fun _ _ _ _ _ => (br_tup (br_acons (br_var 3 (.inl rfl)) (br_acons (br_ix (br_dget hu (br_fld Z.oC_Step (i := 1) rfl (br_var 2 (.inr (.inl rfl)))) (br_var 3 (.inl rfl)) (fun _ _ => rfl)) br_int (fun _ _ => rfl)) br_anil)))))) br_anil))) br_anil)))))
      (bss_one (bs_ret (br_tup (br_acons (br_L (br_list (by rfl) Z.m_list (br_fld Z.oC_Chain (i := 1) rfl (br_fld Z.oC_Group (i := 2) rfl (br_var 0 (.inl rfl)))))) (br_acons (br_var 1 (.inl rfl)) br_anil)))))))
theorem ok__law_hand (Z : Facts K T mg) : FnOk P w K mg base (L2.CX P w) 1 Z.a__law_hand Z.fd__law_hand ["script", "k"] (Br.spM K T f__law_hand) := by
  refine br_def (N := ["script", "k", "cell", "far", "seed"]) (b := b__law_hand) Z.F__law_hand sc__law_hand fun cdv A outer s H E hr => ?_
  have nd := sc__law_hand.nd
  have tk := takes_of (E := E) (X := cxOf (L2.CX P w) P w K mg base ["script", "k", "cell", "far", "seed"] "_law_hand" (defScope (topS 27)) Z.a__law_hand cdv A outer s H E) rfl rfl rfl rfl
  have po := passes_of (X := cxOf (L2.CX P w) P w K mg base ["script", "k", "cell", "far", "seed"] "_law_hand" (defScope (topS 27)) Z.a__law_hand cdv A outer s H E) rfl
  have hu := hu_of hr
  have hu64 := hr.units
  have hu65 := hu65_of hr
  have hu66 := hu66_of hr
  exact (bss_cons (bs_set (i := 2) nd rfl (.inl rfl) br_int)
      (bss_cons (bs_if (bt_cmp op_lt o_lt (br_var 1 (.inl rfl)) (bB_1 call_len_seq o_len (by rfl) Z.m_len PySem.boot_len (br_var 0 (.inl rfl))) (nomark _)) (bss_one (bs_set (i := 2) nd rfl (.inl rfl) (br_ix (br_var 0 (.inl rfl)) (br_var 1 (.inl rfl)) (fun _ _ => rfl)))) bss_nil)
      (bss_cons (bs_set (i := 3) nd rfl (.inl rfl) (br_bin op_mulW o_mul (br_bin op_mulW o_mul (br_bin op_mulW o_mul (br_bin op_pow o_pow br_int br_int) (br_bin op_pow o_pow br_int br_int)) (br_bin op_pow o_pow br_int br_int)) (br_bin op_pow o_pow br_int br_int)))
      (bss_cons (bs_set (i := 4) nd rfl (.inl rfl) (br_bin op_mod o_mod (br_bin op_mulW o_mul (br_bin op_add o_add (br_bin op_add o_add (br_bin op_mod o_mod (br_var 2 (.inl rfl)) br_int) (br_bin op_mulW o_mul br_int (br_var 1 (.inl rfl)))) br_int) br_int) br_int))
      (bss_one (bs_ret (br_Lc (br_lst (br_acons (br_bin op_mulW o_mul (br_bin op_mod o_mod (bB_1 call_abs o_abs (by rfl) Z.m_abs PyProof.Rows.boot_abs (br_var 2 (.inl rfl))) (br_var 3 (.inl rfl))) (bT_1 call_int1 o_int1 (by rfl) Z.m_int PyProof.Rows.boot_int (br_cmp op_ge o_ge (bB_1 call_abs o_abs (by rfl) Z.m_abs PyProof.Rows.boot_abs (br_var 2 (.inl rfl))) (br_bin op_pow o_pow br_int br_int) (nomark _)))) (br_acons (br_var 4 (.inl rfl)) (br_acons br_int br_anil)))))))))))
theorem ok__law_take (Z : Facts K T mg) : FnOk P w K mg base (L2.CX P w) 1 Z.a__law_take Z.fd__law_take ["hand", "many"] (Br.spM K T f__law_take) := by
  refine br_def (N := ["hand", "many", "digit"]) (b := b__law_take) Z.F__law_take sc__law_take fun cdv A outer s H E hr => ?_
  have nd := sc__law_take.nd
  have tk := takes_of (E := E) (X := cxOf (L2.CX P w) P w K mg base ["hand", "many", "digit"] "_law_take" (defScope (topS 28)) Z.a__law_take cdv A outer s H E) rfl rfl rfl rfl
  have po := passes_of (X := cxOf (L2.CX P w) P w K mg base ["hand", "many", "digit"] "_law_take" (defScope (topS 28)) Z.a__law_take cdv A outer s H E) rfl
  have hu := hu_of hr
  have hu64 := hr.units
  have hu65 := hu65_of hr
  have hu66 := hu66_of hr
  exact (bss_cons (bs_if (bt_cmp op_gt o_gt (br_ix (br_var 0 (.inl rfl)) br_int (fun _ _ => rfl)) br_int (nomark _)) (bss_cons (bs_set (i := 2) nd rfl (.inl rfl) (br_bin op_mod o_mod (br_ix (br_var 0 (.inl rfl)) br_int (fun _ _ => rfl)) (br_var 1 (.inl rfl))))
      (bss_cons (bs_putL (br_var 0 (.inl rfl)) br_int (br_bin op_fdivW o_div (br_ix (br_var 0 (.inl rfl)) br_int (fun _ _ => rfl)) (br_var 1 (.inl rfl))))
      (bss_one (bs_ret (br_var 2 (.inl rfl)))))) bss_nil)
      (bss_cons (bs_putL (br_var 0 (.inl rfl)) br_int (br_bin op_add o_add (br_ix (br_var 0 (.inl rfl)) br_int (fun _ _ => rfl)) br_int))
      (bss_cons (bs_putL (br_var 0 (.inl rfl)) br_int (br_bin op_mod o_mod (br_bin op_add o_add (br_bin op_add o_add (br_bin op_mulW o_mul (br_ix (br_var 0 (.inl rfl)) br_int (fun _ _ => rfl)) br_int) br_int) (br_bin op_mulW o_mul br_int (br_ix (br_var 0 (.inl rfl)) br_int (fun _ _ => rfl)))) br_int))
      (bss_one (bs_ret (br_bin op_mod o_mod (br_bin op_fdivW o_div (br_bin op_mod o_mod (br_bin op_mulW o_mul (br_ix (br_var 0 (.inl rfl)) br_int (fun _ _ => rfl)) (br_bin op_add o_add (br_bin op_mod o_mod (br_ix (br_var 0 (.inl rfl)) br_int (fun _ _ => rfl)) br_int) br_int)) br_int) br_int) (br_var 1 (.inl rfl))))))))
theorem ok__law_turning (Z : Facts K T mg) : FnOk P w K mg base (L2.CX P w) 2 Z.a__law_turning Z.fd__law_turning ["hand", "many"] (Br.spM K T f__law_turning) := by
  refine br_def (N := ["hand", "many", "found", "k"]) (b := b__law_turning) Z.F__law_turning sc__law_turning fun cdv A outer s H E hr => ?_
  have nd := sc__law_turning.nd
  have tk := takes_of (E := E) (X := cxOf (L2.CX P w) P w K mg base ["hand", "many", "found", "k"] "_law_turning" (defScope (topS 29)) Z.a__law_turning cdv A outer s H E) rfl rfl rfl rfl
  have po := passes_of (X := cxOf (L2.CX P w) P w K mg base ["hand", "many", "found", "k"] "_law_turning" (defScope (topS 29)) Z.a__law_turning cdv A outer s H E) rfl
  have hu := hu_of hr
  have hu64 := hr.units
  have hu65 := hu65_of hr
  have hu66 := hu66_of hr
  exact (bss_cons (bs_set (i := 2) nd rfl (.inl rfl) (br_Lc (br_lst br_anil)))
      (bss_cons (bs_for po (by rfl) (bi_range (by rfl) Z.m_range (br_var 1 (.inl rfl))) (bg_name (i := 3) nd rfl (.inl rfl)) (bss_one (bs_expr (br_m PySem.F.plainAttrs_list PySem.F.slot_list_insert PySem.F.type_list_insert mt_insert ok_list o_insert (br_var 2 (.inl rfl)) (br_acons (br_call (FnOk.pop (ok__law_take Z)) (hr.mono (by decide)) (by rfl) Z.g__law_take Z.F__law_take.kp Z.b__law_take tk (br_acons (br_var 0 (.inl rfl)) (br_acons (br_bin op_add o_add (br_var 3 (.inl rfl)) br_int) br_anil))) (br_acons (br_var 3 (.inl rfl)) br_anil))))))
      (bss_one (bs_ret (bT_1 call_tuple_of o_tuple (by rfl) Z.m_tuple PyProof.Rows.boot_tuple (br_var 2 (.inl rfl)))))))
theorem ok__law_behind (Z : Facts K T mg) : FnOk P w K mg base (L2.CX P w) 1 Z.a__law_behind Z.fd__law_behind ["one", "other"] (Br.spM K T f__law_behind) := by
  refine br_def (N := ["one", "other", "to"]) (b := b__law_behind) Z.F__law_behind sc__law_behind fun cdv A outer s H E hr => ?_
  have nd := sc__law_behind.nd
  have tk := takes_of (E := E) (X := cxOf (L2.CX P w) P w K mg base ["one", "other", "to"] "_law_behind" (defScope (topS 30)) Z.a__law_behind cdv A outer s H E) rfl rfl rfl rfl
  have po := passes_of (X := cxOf (L2.CX P w) P w K mg base ["one", "other", "to"] "_law_behind" (defScope (topS 30)) Z.a__law_behind cdv A outer s H E) rfl
  have hu := hu_of hr
  have hu64 := hr.units
  have hu65 := hu65_of hr
  have hu66 := hu66_of hr
  exact (bss_one (bs_ret (bT_1 call_tuple_of o_tuple (by rfl) Z.m_tuple PyProof.Rows.boot_tuple (br_L (bl_comp (own := [("to", 2)]) (by rfl) nd (bi_tup (br_var 0 (.inl rfl))) (blkOk_by (by rfl)) (fun _ _ _ _ _ => (cg_name (i := 2) (by decide) nd rfl (.inl rfl))) (fun _ _ _ _ _ => bts_nil) (fun _ _ _ _ _ => (br_ix (br_var 1 (.inr (.inl rfl))) (br_var 2 (.inl rfl)) (fun _ _ => rfl))))))))
theorem ok__law_back (Z : Facts K T mg) : FnOk P w K mg base (L2.CX P w) 1 Z.a__law_back Z.fd__law_back ["one"] (Br.spM K T f__law_back) := by
  refine br_def (N := ["one", "row", "place", "to"]) (b := b__law_back) Z.F__law_back sc__law_back fun cdv A outer s H E hr => ?_
  have nd := sc__law_back.nd
  have tk := takes_of (E := E) (X := cxOf (L2.CX P w) P w K mg base ["one", "row", "place", "to"] "_law_back" (defScope (topS 31)) Z.a__law_back cdv A outer s H E) rfl rfl rfl rfl
  have po := passes_of (X := cxOf (L2.CX P w) P w K mg base ["one", "row", "place", "to"] "_law_back" (defScope (topS 31)) Z.a__law_back cdv A outer s H E) rfl
  have hu := hu_of hr
  have hu64 := hr.units
  have hu65 := hu65_of hr
  have hu66 := hu66_of hr
  exact (bss_cons (bs_set (i := 1) nd rfl (.inl rfl) (br_Lc (bl_mul (br_L (br_lst (br_acons br_int br_anil))) (bB_1 call_len_seq o_len (by rfl) Z.m_len PySem.boot_len (br_var 0 (.inl rfl))))))
      (bss_cons (bs_for po (by rfl) (bi_enumT (by rfl) Z.m_enumerate (br_var 0 (.inl rfl))) (bg_tup (by rfl) (bgs_cons (bg_name (i := 2) nd rfl (.inl rfl)) (bgs_cons (bg_name (i := 3) nd rfl (.inl rfl)) bgs_nil))) (bss_one (bs_putL (br_var 1 (.inl rfl)) (br_var 3 (.inl rfl)) (br_var 2 (.inl rfl)))))
      (bss_one (bs_ret (bT_1 call_tuple_of o_tuple (by rfl) Z.m_tuple PyProof.Rows.boot_tuple (br_var 1 (.inl rfl)))))))
theorem ok__law_worked (Z : Facts K T mg) : FnOk P w K mg base (L2.CX P w) 2 Z.a__law_worked Z.fd__law_worked ["lines", "makers", "many"] (Br.spM K T f__law_worked) := by
  refine br_def (N := ["lines", "makers", "many", "found", "line"]) (b := b__law_worked) Z.F__law_worked sc__law_worked fun cdv A outer s H E hr => ?_
  have nd := sc__law_worked.nd
  have tk := takes_of (E := E) (X := cxOf (L2.CX P w) P w K mg base ["lines", "makers", "many", "found", "line"] "_law_worked" (defScope (topS 32)) Z.a__law_worked cdv A outer s H E) rfl rfl rfl rfl
  have po := passes_of (X := cxOf (L2.CX P w) P w K mg base ["lines", "makers", "many", "found", "line"] "_law_worked" (defScope (topS 32)) Z.a__law_worked cdv A outer s H E) rfl
  have hu := hu_of hr
  have hu64 := hr.units
  have hu65 := hu65_of hr
  have hu66 := hu66_of hr
  exact (bss_cons (bs_set (i := 3) nd rfl (.inl rfl) (br_Lc (br_lst br_anil)))
      (bss_cons (bs_for po (by rfl) (bi_list (br_var 0 (.inl rfl))) (bg_name (i := 4) nd rfl (.inl rfl)) (bss_one (bs_if (bt_cmp (op_eqD hu64) o_eq (br_ix (br_var 4 (.inl rfl)) br_int (fun _ _ => rfl)) br_str (nomark _)) (bss_one (bs_expr (br_m PySem.F.plainAttrs_list PySem.F.slot_list_append PySem.F.type_list_append mt_append ok_list o_append (br_var 3 (.inl rfl)) (br_acons (br_tupRange (by rfl) (by rfl) Z.m_tuple (by rfl) Z.m_range (br_var 2 (.inl rfl))) br_anil)))) (bss_one (bs_if (bt_cmp (op_eqD hu64) o_eq (br_ix (br_var 4 (.inl rfl)) br_int (fun _ _ => rfl)) br_str (nomark _)) (bss_one (bs_expr (br_m PySem.F.plainAttrs_list PySem.F.slot_list_append PySem.F.type_list_append mt_append ok_list o_append (br_var 3 (.inl rfl)) (br_acons (br_ix (br_var 1 (.inl rfl)) (br_ix (br_var 4 (.inl rfl)) br_int (fun _ _ => rfl)) (fun _ _ => rfl)) br_anil)))) (bss_one (bs_if (bt_cmp (op_eqD hu64) o_eq (br_ix (br_var 4 (.inl rfl)) br_int (fun _ _ => rfl)) br_str (nomark _)) (bss_one (bs_expr (br_m PySem.F.plainAttrs_list PySem.F.slot_list_append PySem.F.type_list_append mt_append ok_list o_append (br_var 3 (.inl rfl)) (br_acons (br_call (FnOk.pop (ok__law_behind Z)) (hr.mono (by decide)) (by rfl) Z.g__law_behind Z.F__law_behind.kp Z.b__law_behind tk (br_acons (br_ix (br_var 3 (.inl rfl)) (br_ix (br_var 4 (.inl rfl)) br_int (fun _ _ => rfl)) (fun _ _ => rfl)) (br_acons (br_ix (br_var 3 (.inl rfl)) (br_ix (br_var 4 (.inl rfl)) br_int (fun _ _ => rfl)) (fun _ _ => rfl)) br_anil))) br_anil)))) (bss_one (bs_expr (br_m PySem.F.plainAttrs_list PySem.F.slot_list_append PySem.F.type_list_append mt_append ok_list o_append (br_var 3 (.inl rfl)) (br_acons (br_call (FnOk.pop (ok__law_back Z)) (hr.mono (by decide)) (by rfl) Z.g__law_back Z.F__law_back.kp Z.b__law_back tk (br_acons (br_ix (br_var 3 (.inl rfl)) (br_ix (br_var 4 (.inl rfl)) br_int (fun _ _ => rfl)) (fun _ _ => rfl)) br_anil)) br_anil)))))))))))
      (bss_one (bs_ret (br_var 3 (.inl rfl))))))
theorem ok__law_made (Z : Facts K T mg) : FnOk P w K mg base (L2.CX P w) 1 Z.a__law_made Z.fd__law_made ["many", "window", "values"] (Br.spM K T f__law_made) := by
  refine br_def (N := ["many", "window", "values", "row", "place", "to"]) (b := b__law_made) Z.F__law_made sc__law_made fun cdv A outer s H E hr => ?_
  have nd := sc__law_made.nd
  have tk := takes_of (E := E) (X := cxOf (L2.CX P w) P w K mg base ["many", "window", "values", "row", "place", "to"] "_law_made" (defScope (topS 33)) Z.a__law_made cdv A outer s H E) rfl rfl rfl rfl
  have po := passes_of (X := cxOf (L2.CX P w) P w K mg base ["many", "window", "values", "row", "place", "to"] "_law_made" (defScope (topS 33)) Z.a__law_made cdv A outer s H E) rfl
  have hu := hu_of hr
  have hu64 := hr.units
  have hu65 := hu65_of hr
  have hu66 := hu66_of hr
  exact (bss_cons (bs_set (i := 3) nd rfl (.inl rfl) (br_Lc (br_listRange (by rfl) (by rfl) Z.m_list (by rfl) Z.m_range (br_var 0 (.inl rfl)))))
      (bss_cons (bs_for po (by rfl) (bi_zip (by rfl) Z.m_zip (br_var 1 (.inl rfl)) (br_var 2 (.inl rfl))) (bg_tup (by rfl) (bgs_cons (bg_name (i := 4) nd rfl (.inl rfl)) (bgs_cons (bg_name (i := 5) nd rfl (.inl rfl)) bgs_nil))) (bss_one (bs_putL (br_var 3 (.inl rfl)) (br_var 4 (.inl rfl)) (br_var 5 (.inl rfl)))))
      (bss_one (bs_ret (bT_1 call_tuple_of o_tuple (by rfl) Z.m_tuple PyProof.Rows.boot_tuple (br_var 3 (.inl rfl)))))))
theorem ok__law_by_number (Z : Facts K T mg) : FnOk P w K mg base (L2.CX P w) 1 Z.a__law_by_number Z.fd__law_by_number ["window", "number"] (Br.spM K T f__law_by_number) := by
  refine br_def (N := ["window", "number", "left", "found", "rest", "k"]) (b := b__law_by_number) Z.F__law_by_number sc__law_by_number fun cdv A outer s H E hr => ?_
  have nd := sc__law_by_number.nd
  have tk := takes_of (E := E) (X := cxOf (L2.CX P w) P w K mg base ["window", "number", "left", "found", "rest", "k"] "_law_by_number" (defScope (topS 34)) Z.a__law_by_number cdv A outer s H E) rfl rfl rfl rfl
  have po := passes_of (X := cxOf (L2.CX P w) P w K mg base ["window", "number", "left", "found", "rest", "k"] "_law_by_number" (defScope (topS 34)) Z.a__law_by_number cdv A outer s H E) rfl
  have hu := hu_of hr
  have hu64 := hr.units
  have hu65 := hu65_of hr
  have hu66 := hu66_of hr
  exact (bss_cons (bs_par (i := 2) (j := 3) (by rfl) nd rfl rfl (by decide) rfl rfl (br_Lc (br_list (by rfl) Z.m_list (br_var 0 (.inl rfl)))) (br_Lc (br_lst br_anil)) (hp := fun h => ps_par (by rfl) nd rfl rfl (by decide) rfl rfl h (by rfl)))
      (bss_cons (bs_set (i := 4) nd rfl (.inl rfl) br_int)
      (bss_cons (bs_for po (by rfl) (bi_range2 (by rfl) Z.m_range br_int (br_bin op_add o_add (bB_1 call_len_seq o_len (by rfl) Z.m_len PySem.boot_len (br_var 0 (.inl rfl))) br_int)) (bg_name (i := 5) nd rfl (.inl rfl)) (bss_one (bs_set (i := 4) nd rfl (.inl rfl) (br_bin op_mulW o_mul (br_var 4 (.inl rfl)) (br_var 5 (.inl rfl))))))
      (bss_cons (bs_while po (bt_cmp (op_neD hu64) o_ne (br_var 2 (.inl rfl)) (br_L (br_lst br_anil)) (nomark _)) (bss_cons (bs_set (i := 4) nd rfl (.inl rfl) (br_bin op_fdivW o_div (br_var 4 (.inl rfl)) (bB_1 call_len_seq o_len (by rfl) Z.m_len PySem.boot_len (br_var 2 (.inl rfl)))))
      (bss_cons (bs_expr (br_m PySem.F.plainAttrs_list PySem.F.slot_list_append PySem.F.type_list_append mt_append ok_list o_append (br_var 3 (.inl rfl)) (br_acons (br_m PySem.F.plainAttrs_list PySem.F.slot_list_pop PySem.F.type_list_pop mt_popAt ok_list o_popAt (br_var 2 (.inl rfl)) (br_acons (br_bin op_fdivW o_div (br_var 1 (.inl rfl)) (br_var 4 (.inl rfl))) br_anil)) br_anil)))
      (bss_one (bs_set (i := 1) nd rfl (.inl rfl) (br_bin op_mod o_mod (br_var 1 (.inl rfl)) (br_var 4 (.inl rfl))))))))
      (bss_one (bs_ret (br_var 3 (.inl rfl))))))))
theorem ok__law_refused (Z : Facts K T mg) : FnOk P w K mg base (L2.CX P w) 4 Z.a__law_refused Z.fd__law_refused ["group", "way", "thing"] (Br.spM K T f__law_refused) := by
  refine br_def (N := ["group", "way", "thing", "found"]) (b := b__law_refused) Z.F__law_refused sc__law_refused fun cdv A outer s H E hr => ?_
  have nd := sc__law_refused.nd
  have tk := takes_of (E := E) (X := cxOf (L2.CX P w) P w K mg base ["group", "way", "thing", "found"] "_law_refused" (defScope (topS 35)) Z.a__law_refused cdv A outer s H E) rfl rfl rfl rfl
  have po := passes_of (X := cxOf (L2.CX P w) P w K mg base ["group", "way", "thing", "found"] "_law_refused" (defScope (topS 35)) Z.a__law_refused cdv A outer s H E) rfl
  have hu := hu_of hr
  have hu64 := hr.units
  have hu65 := hu65_of hr
  have hu66 := hu66_of hr
  exact (bss_cons (bs_set (i := 3) nd rfl (.inl rfl) br_int)
      (bss_cons (bs_try rfl rfl tk (fun W2 _ _ tk po => (bss_one (bs_if (bt_cmp op_eq o_eqS (br_var 1 (.inl rfl)) br_int (nomark _)) (bss_one (bs_expr (br_meth Z.oC_Group (by decide) Z.mm_Group_nth (FnOk.pop (ok_Group_nth Z)) (hr.mono (by decide)) Z.b_Group_nth tk (br_var 0 (.inl rfl)) (br_acons (br_var 2 (.inl rfl)) br_anil)))) (bss_one (bs_expr (br_meth Z.oC_Group (by decide) Z.mm_Group_lift (FnOk.pop (ok_Group_lift Z)) (hr.mono (by decide)) Z.b_Group_lift tk (br_var 0 (.inl rfl)) (br_acons (br_ix (br_var 2 (.inl rfl)) br_int (fun _ _ => rfl)) (br_acons (br_ix (br_var 2 (.inl rfl)) br_int (fun _ _ => rfl)) br_anil))))))))
      (.cons ⟨by rfl, by decide, .inl Z.gX_NoNumber⟩ (ExL.ok Z.ex_NoNumber) (fun _ _ => (bss_one (bs_set (i := 3) nd rfl (.inl rfl) br_int))) (.cons ⟨by rfl, by decide, .inl Z.gX_NotIn⟩ (ExL.ok Z.ex_NotIn) (fun _ _ => (bss_one (bs_set (i := 3) nd rfl (.inl rfl) br_int))) (.cons ⟨by rfl, by decide, .inl Z.gX_TurnError⟩ (ExL.ok Z.ex_TurnError) (fun _ _ => (bss_one (bs_set (i := 3) nd rfl (.inl rfl) br_int))) .nil))))
      (bss_one (bs_ret (br_cmp op_eq o_eqS (br_var 3 (.inl rfl)) (br_bin op_add o_add br_int (br_var 1 (.inl rfl))) (nomark _))))))
theorem ok__law_drawn_below (Z : Facts K T mg) : FnOk P w K mg base (L2.CX P w) 2 Z.a__law_drawn_below Z.fd__law_drawn_below ["hand", "whole"] (Br.spM K T f__law_drawn_below) := by
  refine br_def (N := ["hand", "whole", "found", "turn"]) (b := b__law_drawn_below) Z.F__law_drawn_below sc__law_drawn_below fun cdv A outer s H E hr => ?_
  have nd := sc__law_drawn_below.nd
  have tk := takes_of (E := E) (X := cxOf (L2.CX P w) P w K mg base ["hand", "whole", "found", "turn"] "_law_drawn_below" (defScope (topS 37)) Z.a__law_drawn_below cdv A outer s H E) rfl rfl rfl rfl
  have po := passes_of (X := cxOf (L2.CX P w) P w K mg base ["hand", "whole", "found", "turn"] "_law_drawn_below" (defScope (topS 37)) Z.a__law_drawn_below cdv A outer s H E) rfl
  have hu := hu_of hr
  have hu64 := hr.units
  have hu65 := hu65_of hr
  have hu66 := hu66_of hr
  exact (bss_cons (bs_set (i := 2) nd rfl (.inl rfl) br_int)
      (bss_cons (bs_for po (by rfl) (bi_range (by rfl) Z.m_range br_int) (bg_name (i := 3) nd rfl (.inl rfl)) (bss_one (bs_set (i := 2) nd rfl (.inl rfl) (br_bin op_add o_add (br_bin op_mulW o_mul (br_var 2 (.inl rfl)) br_int) (br_call (FnOk.pop (ok__law_take Z)) (hr.mono (by decide)) (by rfl) Z.g__law_take Z.F__law_take.kp Z.b__law_take tk (br_acons (br_var 0 (.inl rfl)) (br_acons br_int br_anil)))))))
      (bss_one (bs_ret (br_bin op_mod o_mod (br_var 2 (.inl rfl)) (br_var 1 (.inl rfl)))))))
theorem ok__law_numbers_right (Z : Facts K T mg) : FnOk P w K mg base (L2.CX P w) 6 Z.a__law_numbers_right Z.fd__law_numbers_right ["hand", "group", "window", "whole"] (Br.spM K T f__law_numbers_right) := by
  refine br_def (N := ["hand", "group", "window", "whole", "turn", "number", "due"]) (b := b__law_numbers_right) Z.F__law_numbers_right sc__law_numbers_right fun cdv A outer s H E hr => ?_
  have nd := sc__law_numbers_right.nd
  have tk := takes_of (E := E) (X := cxOf (L2.CX P w) P w K mg base ["hand", "group", "window", "whole", "turn", "number", "due"] "_law_numbers_right" (defScope (topS 36)) Z.a__law_numbers_right cdv A outer s H E) rfl rfl rfl rfl
  have po := passes_of (X := cxOf (L2.CX P w) P w K mg base ["hand", "group", "window", "whole", "turn", "number", "due"] "_law_numbers_right" (defScope (topS 36)) Z.a__law_numbers_right cdv A outer s H E) rfl
  have hu := hu_of hr
  have hu64 := hr.units
  have hu65 := hu65_of hr
  have hu66 := hu66_of hr
  exact (bss_cons (bs_for po (by rfl) (bi_range (by rfl) Z.m_range br_int) (bg_name (i := 4) nd rfl (.inl rfl)) (bss_cons (bs_set (i := 5) nd rfl (.inl rfl) (br_ix (br_L (br_lst (br_acons br_int (br_acons (br_bin op_sub o_sub (br_var 3 (.inl rfl)) br_int) (br_acons (br_bin op_fdivW o_div (br_var 3 (.inl rfl)) br_int) (br_acons (br_call (FnOk.pop (ok__law_drawn_below Z)) (hr.mono (by decide)) (by rfl) Z.g__law_drawn_below Z.F__law_drawn_below.kp Z.b__law_drawn_below tk (br_acons (br_var 0 (.inl rfl)) (br_acons (br_var 3 (.inl rfl)) br_anil))) (br_acons (br_call (FnOk.pop (ok__law_drawn_below Z)) (hr.mono (by decide)) (by rfl) Z.g__law_drawn_below Z.F__law_drawn_below.kp Z.b__law_drawn_below tk (br_acons (br_var 0 (.inl rfl)) (br_acons (br_var 3 (.inl rfl)) br_anil))) br_anil))))))) (br_var 4 (.inl rfl)) (fun _ _ => rfl)))
      (bss_cons (bs_set (i := 6) nd rfl (.inl rfl) (br_call (FnOk.pop (ok__law_made Z)) (hr.mono (by decide)) (by rfl) Z.g__law_made Z.F__law_made.kp Z.b__law_made tk (br_acons (br_fld Z.oC_Group (i := 1) rfl (br_var 1 (.inl rfl))) (br_acons (br_var 2 (.inl rfl)) (br_acons (br_call (FnOk.pop (ok__law_by_number Z)) (hr.mono (by decide)) (by rfl) Z.g__law_by_number Z.F__law_by_number.kp Z.b__law_by_number tk (br_acons (br_var 2 (.inl rfl)) (br_acons (br_var 5 (.inl rfl)) br_anil))) br_anil)))))
      (bss_one (bs_if (PW.pt (bw_or (bt_cmp (op_neD hu64) o_ne (br_meth Z.oC_Group (by decide) Z.mm_Group_nth (FnOk.pop (ok_Group_nth Z)) (hr.mono (by decide)) Z.b_Group_nth tk (br_var 1 (.inl rfl)) (br_acons (br_var 5 (.inl rfl)) br_anil)) (br_var 6 (.inl rfl)) (nomark _)) (bw_or (bt_cmp op_ne o_neS (br_meth Z.oC_Group (by decide) Z.mm_Group_place_of (FnOk.pop (ok_Group_place_of Z)) (hr.mono (by decide)) Z.b_Group_place_of tk (br_var 1 (.inl rfl)) (br_acons (br_var 6 (.inl rfl)) br_anil)) (br_var 5 (.inl rfl)) (nomark _)) (bw_1 (bt_cmp op_isnot_bl o_isnot (br_meth Z.oC_Group (by decide) Z.mm_Group_has (FnOk.pop (ok_Group_has Z)) (hr.mono (by decide)) Z.b_Group_has tk (br_var 1 (.inl rfl)) (br_acons (br_var 6 (.inl rfl)) br_anil)) br_bl (nomark _)))))) (bss_one (bs_ret br_bl)) bss_nil)))))
      (bss_one (bs_ret (br_and (br_call (FnOk.pop (ok__law_refused Z)) (hr.mono (by decide)) (by rfl) Z.g__law_refused Z.F__law_refused.kp Z.b__law_refused tk (br_acons (br_var 1 (.inl rfl)) (br_acons br_int (br_acons (br_var 3 (.inl rfl)) br_anil)))) (br_one (br_cmp op_eq o_eqS (br_meth0 Z.oC_Group (by decide) Z.mm_Group_size (FnOk.pop (ok_Group_size Z)) (hr.mono (by decide)) Z.b_Group_size tk (br_var 1 (.inl rfl))) (br_var 3 (.inl rfl)) (nomark _)))))))
theorem ok__law_lift (Z : Facts K T mg) : FnOk P w K mg base (L2.CX P w) 2 Z.a__law_lift Z.fd__law_lift ["group", "window", "i", "j"] (Br.spM K T f__law_lift) := by
  refine br_def (N := ["group", "window", "i", "j"]) (b := b__law_lift) Z.F__law_lift sc__law_lift fun cdv A outer s H E hr => ?_
  have nd := sc__law_lift.nd
  have tk := takes_of (E := E) (X := cxOf (L2.CX P w) P w K mg base ["group", "window", "i", "j"] "_law_lift" (defScope (topS 38)) Z.a__law_lift cdv A outer s H E) rfl rfl rfl rfl
  have po := passes_of (X := cxOf (L2.CX P w) P w K mg base ["group", "window", "i", "j"] "_law_lift" (defScope (topS 38)) Z.a__law_lift cdv A outer s H E) rfl
  have hu := hu_of hr
  have hu64 := hr.units
  have hu65 := hu65_of hr
  have hu66 := hu66_of hr
  exact (bss_one (bs_ret (br_call (FnOk.pop (ok__law_made Z)) (hr.mono (by decide)) (by rfl) Z.g__law_made Z.F__law_made.kp Z.b__law_made tk (br_acons (br_fld Z.oC_Group (i := 1) rfl (br_var 0 (.inl rfl))) (br_acons (br_L (bl_cut (br_var 1 (.inl rfl)) (bo_some (br_var 2 (.inl rfl))) bo_none)) (br_acons (br_L (bl_add (br_L (bl_add (br_L (br_lst (br_acons (br_ix (br_var 1 (.inl rfl)) (br_var 3 (.inl rfl)) (fun _ _ => rfl)) br_anil))) (br_L (bl_cut (br_var 1 (.inl rfl)) (bo_some (br_var 2 (.inl rfl))) (bo_some (br_var 3 (.inl rfl))))))) (br_L (bl_cut (br_var 1 (.inl rfl)) (bo_some (br_bin op_add o_add (br_var 3 (.inl rfl)) br_int)) bo_none)))) br_anil))))))
theorem ok__law_lifts_right (Z : Facts K T mg) : FnOk P w K mg base (L2.CX P w) 5 Z.a__law_lifts_right Z.fd__law_lifts_right ["hand", "group", "window"] (Br.spM K T f__law_lifts_right) := by
  refine br_def (N := ["hand", "group", "window", "turn", "one", "values", "place", "due", "to", "ground", "i", "j"]) (b := b__law_lifts_right) Z.F__law_lifts_right sc__law_lifts_right fun cdv A outer s H E hr => ?_
  have nd := sc__law_lifts_right.nd
  have tk := takes_of (E := E) (X := cxOf (L2.CX P w) P w K mg base ["hand", "group", "window", "turn", "one", "values", "place", "due", "to", "ground", "i", "j"] "_law_lifts_right" (defScope (topS 39)) Z.a__law_lifts_right cdv A outer s H E) rfl rfl rfl rfl
  have po := passes_of (X := cxOf (L2.CX P w) P w K mg base ["hand", "group", "window", "turn", "one", "values", "place", "due", "to", "ground", "i", "j"] "_law_lifts_right" (defScope (topS 39)) Z.a__law_lifts_right cdv A outer s H E) rfl
  have hu := hu_of hr
  have hu64 := hr.units
  have hu65 := hu65_of hr
  have hu66 := hu66_of hr
  exact (bss_cons (bs_for po (by rfl) (bi_range (by rfl) Z.m_range br_int) (bg_name (i := 3) nd rfl (.inl rfl)) (bss_cons (bs_set (i := 4) nd rfl (.inr rfl) (br_call (FnOk.pop (ok__law_turning Z)) (hr.mono (by decide)) (by rfl) Z.g__law_turning Z.F__law_turning.kp Z.b__law_turning tk (br_acons (br_var 0 (.inl rfl)) (br_acons (br_fld Z.oC_Group (i := 1) rfl (br_var 1 (.inr (.inl rfl)))) br_anil))))
      (bss_cons (bs_set (i := 5) nd rfl (.inl rfl) (br_L (bl_sorted hu66 (by rfl) Z.m_sorted (br_L (bl_comp (own := [("place", 6)]) (by rfl) nd (bi_list (br_var 2 (.inr (.inl rfl)))) (blkOk_by (by rfl)) (fun _ _ _ _ _ => (cg_name (i := 6) (by decide) nd rfl (.inl rfl))) (fun _ _ _ _ _ => bts_nil) (fun _ _ _ _ _ => (br_ix (br_var 4 (.inr (.inl rfl))) (br_var 6 (.inl rfl)) (fun _ _ => rfl))))))))
      (bss_cons (bs_set (i := 7) nd rfl (.inl rfl) (br_Lc (br_list (by rfl) Z.m_list (br_var 4 (.inr (.inl rfl))))))
      (bss_cons (bs_for po (by rfl) (bi_zip (by rfl) Z.m_zip (br_var 2 (.inr (.inl rfl))) (br_var 5 (.inl rfl))) (bg_tup (by rfl) (bgs_cons (bg_name (i := 6) nd rfl (.inl rfl)) (bgs_cons (bg_name (i := 8) nd rfl (.inl rfl)) bgs_nil))) (bss_one (bs_putL (br_var 7 (.inl rfl)) (br_var 6 (.inl rfl)) (br_var 8 (.inl rfl)))))
      (bss_one (bs_if (bt_cmp (op_neD hu64) o_ne (br_meth Z.oC_Group (by decide) Z.mm_Group_least (FnOk.pop (ok_Group_least Z)) (hr.mono (by decide)) Z.b_Group_least tk (br_var 1 (.inr (.inl rfl))) (br_acons (br_var 4 (.inr (.inl rfl))) br_anil)) (bT_1 call_tuple_of o_tuple (by rfl) Z.m_tuple PyProof.Rows.boot_tuple (br_var 7 (.inl rfl))) (nomark _)) (bss_one (bs_ret br_bl)) bss_nil)))))))
      (bss_cons (bs_set (i := 9) nd rfl (.inl rfl) (br_Lc (br_lst br_anil)))
      (bss_cons (bs_for po (by rfl) (bi_range (by rfl) Z.m_range (br_bin op_sub o_sub (bB_1 call_len_seq o_len (by rfl) Z.m_len PySem.boot_len (br_var 2 (.inr (.inl rfl)))) br_int)) (bg_name (i := 10) nd rfl (.inr rfl)) (bss_one (bs_expr (br_m PySem.F.plainAttrs_list PySem.F.slot_list_append PySem.F.type_list_append mt_append ok_list o_append (br_var 9 (.inl rfl)) (br_acons (br_tup (br_acons (br_ix (br_var 2 (.inr (.inl rfl))) (br_var 10 (.inr (.inl rfl))) (fun _ _ => rfl)) (br_acons (br_L (bl_comp (own := [("j", 11)]) (by rfl) nd (bi_range2 (by rfl) Z.m_range (br_var 10 (.inr (.inl rfl))) (bB_1 call_len_seq o_len (by rfl) Z.m_len PySem.boot_len (br_var 2 (.inr (.inl rfl))))) (blkOk_by (by rfl)) (fun _ _ _ _ _ => (cg_name (i := 11) (by decide) nd rfl (.inl rfl))) (fun _ _ _ _ _ => bts_nil) (fun _ _ _ _ _ => (br_call (FnOk.pop (ok__law_lift Z)) (hr.mono (by decide)) (by rfl) Z.g__law_lift Z.F__law_lift.kp Z.b__law_lift takes0 (br_acons (br_var 1 (.inr (.inl rfl))) (br_acons (br_var 2 (.inr (.inl rfl))) (br_acons (br_var 10 (.inr (.inl rfl))) (br_acons (br_var 11 (.inl rfl)) br_anil)))))))) br_anil))) br_anil)))))
      (bss_cons (bs_if (PW.pt (bw_or (bt_cmp (op_neD hu64) o_ne (br_meth0 Z.oC_Group (by decide) Z.mm_Group_ground (FnOk.pop (ok_Group_ground Z)) (hr.mono (by decide)) Z.b_Group_ground tk (br_var 1 (.inr (.inl rfl)))) (br_var 9 (.inl rfl)) (nomark _)) (bw_1 (bt_cmp (op_neD hu64) o_ne (br_meth0 Z.oC_Group (by decide) Z.mm_Group_base (FnOk.pop (ok_Group_base Z)) (hr.mono (by decide)) Z.b_Group_base tk (br_var 1 (.inr (.inl rfl)))) (br_L (bl_cut (br_var 2 (.inr (.inl rfl))) bo_none (bo_some (br_un un_neg o_neg br_int)))) (nomark _))))) (bss_one (bs_ret br_bl)) bss_nil)
      (bss_cons (bs_set (i := 10) nd rfl (.inr rfl) (br_bin op_add o_add br_int (br_call (FnOk.pop (ok__law_take Z)) (hr.mono (by decide)) (by rfl) Z.g__law_take Z.F__law_take.kp Z.b__law_take tk (br_acons (br_var 0 (.inl rfl)) (br_acons (br_bin op_sub o_sub (bB_1 call_len_seq o_len (by rfl) Z.m_len PySem.boot_len (br_var 2 (.inr (.inl rfl)))) br_int) br_anil)))))
      (bss_cons (bs_set (i := 11) nd rfl (.inl rfl) (br_call (FnOk.pop (ok__law_take Z)) (hr.mono (by decide)) (by rfl) Z.g__law_take Z.F__law_take.kp Z.b__law_take tk (br_acons (br_var 0 (.inl rfl)) (br_acons (br_var 10 (.inr (.inl rfl))) br_anil))))
      (bss_cons (bs_if (bt_not (bt_val (br_call (FnOk.pop (ok__law_refused Z)) (hr.mono (by decide)) (by rfl) Z.g__law_refused Z.F__law_refused.kp Z.b__law_refused tk (br_acons (br_var 1 (.inr (.inl rfl))) (br_acons br_int (br_acons (br_tup (br_acons (br_ix (br_var 2 (.inr (.inl rfl))) (br_var 10 (.inr (.inl rfl))) (fun _ _ => rfl)) (br_acons (br_ix (br_var 2 (.inr (.inl rfl))) (br_var 11 (.inl rfl)) (fun _ _ => rfl)) br_anil))) br_anil)))))) (bss_one (bs_ret br_bl)) bss_nil)
      (bss_one (bs_ret (br_cmp (op_eqD hu64) o_eq (br_meth Z.oC_Group (by decide) Z.mm_Group_lift (FnOk.pop (ok_Group_lift Z)) (hr.mono (by decide)) Z.b_Group_lift tk (br_var 1 (.inr (.inl rfl))) (br_acons (br_ix (br_var 2 (.inr (.inl rfl))) (br_var 11 (.inl rfl)) (fun _ _ => rfl)) (br_acons (br_ix (br_var 2 (.inr (.inl rfl))) (br_var 10 (.inr (.inl rfl))) (fun _ _ => rfl)) br_anil))) (br_call (FnOk.pop (ok__law_lift Z)) (hr.mono (by decide)) (by rfl) Z.g__law_lift Z.F__law_lift.kp Z.b__law_lift tk (br_acons (br_var 1 (.inr (.inl rfl))) (br_acons (br_var 2 (.inr (.inl rfl))) (br_acons (br_var 11 (.inl rfl)) (br_acons (br_var 10 (.inr (.inl rfl))) br_anil))))) (nomark _)))))))))))
theorem ok__law_paper_right (Z : Facts K T mg) : FnOk P w K mg base (L2.CX P w) 3 Z.a__law_paper_right Z.fd__law_paper_right ["group", "window", "makers"] (Br.spM K T f__law_paper_right) := by
  refine br_def (N := ["group", "window", "makers", "lines", "steps", "made", "place", "lifts", "k", "to", "line"]) (b := b__law_paper_right) Z.F__law_paper_right sc__law_paper_right fun cdv A outer s H E hr => ?_
  have nd := sc__law_paper_right.nd
  have tk := takes_of (E := E) (X := cxOf (L2.CX P w) P w K mg base ["group", "window", "makers", "lines", "steps", "made", "place", "lifts", "k", "to", "line"] "_law_paper_right" (defScope (topS 40)) Z.a__law_paper_right cdv A outer s H E) rfl rfl rfl rfl
  have po := passes_of (X := cxOf (L2.CX P w) P w K mg base ["group", "window", "makers", "lines", "steps", "made", "place", "lifts", "k", "to", "line"] "_law_paper_right" (defScope (topS 40)) Z.a__law_paper_right cdv A outer s H E) rfl
  have hu := hu_of hr
  have hu64 := hr.units
  have hu65 := hu65_of hr
  have hu66 := hu66_of hr
  exact (bss_cons (bs_asg (br_meth0 Z.oC_Group (by decide) Z.mm_Group_paper (FnOk.pop (ok_Group_paper Z)) (hr.mono (by decide)) Z.b_Group_paper tk (br_var 0 (.inl rfl))) (bg_tup (by rfl) (bgs_cons (bg_name (i := 3) nd rfl (.inl rfl)) (bgs_cons (bg_name (i := 4) nd rfl (.inl rfl)) bgs_nil))))
      (bss_cons (bs_set (i := 5) nd rfl (.inl rfl) (br_call (FnOk.pop (ok__law_worked Z)) (hr.mono (by decide)) (by rfl) Z.g__law_worked Z.F__law_worked.kp Z.b__law_worked tk (br_acons (br_var 3 (.inl rfl)) (br_acons (br_var 2 (.inl rfl)) (br_acons (br_fld Z.oC_Group (i := 1) rfl (br_var 0 (.inl rfl))) br_anil)))))
      (bss_cons (bs_if (bt_cmp (op_neD hu64) o_ne (br_L (bl_comp (own := [("place", 6), ("lifts", 7)]) (by rfl) nd (bi_list (br_var 4 (.inl rfl))) (blkOk_by (by rfl)) (fun _ _ _ _ _ => (cg_tup (by rfl) (cgs_cons (cg_name (i := 6) (by decide) nd rfl (.inl rfl)) (cgs_cons (cg_name (i := 7) (by decide) nd rfl (.inl rfl)) cgs_nil)))) (fun _ _ _ _ _ => bts_nil) (fun _ _ _ _ _ => (br_var 6 (.inl rfl))))) (br_L (bl_cut (br_var 1 (.inl rfl)) bo_none (bo_some (br_un un_neg o_neg br_int)))) (nomark _)) (bss_one (bs_ret br_bl)) bss_nil)
      (bss_cons (bs_for po (by rfl) (bi_enum (by rfl) Z.m_enumerate (br_var 4 (.inl rfl))) (bg_tup (by rfl) (bgs_cons (bg_name (i := 8) nd rfl (.inl rfl)) (bgs_cons (bg_tup (by rfl) (bgs_cons (bg_name (i := 6) nd rfl (.inl rfl)) (bgs_cons (bg_name (i := 7) nd rfl (.inl rfl)) bgs_nil))) bgs_nil))) (bss_cons (bs_if (bt_cmp (op_neD hu64) o_ne (br_L (bl_comp (own := [("to", 9), ("line", 10)]) (by rfl) nd (bi_list (br_var 7 (.inl rfl))) (blkOk_by (by rfl)) (fun _ _ _ _ _ => (cg_tup (by rfl) (cgs_cons (cg_name (i := 9) (by decide) nd rfl (.inl rfl)) (cgs_cons (cg_name (i := 10) (by decide) nd rfl (.inl rfl)) cgs_nil)))) (fun _ _ _ _ _ => bts_nil) (fun _ _ _ _ _ => (br_var 9 (.inl rfl))))) (br_L (bl_cut (br_var 1 (.inl rfl)) (bo_some (br_var 8 (.inl rfl))) bo_none)) (nomark _)) (bss_one (bs_ret br_bl)) bss_nil)
      (bss_cons (bs_for po (by rfl) (bi_list (br_var 7 (.inl rfl))) (bg_tup (by rfl) (bgs_cons (bg_name (i := 9) nd rfl (.inl rfl)) (bgs_cons (bg_name (i := 10) nd rfl (.inl rfl)) bgs_nil))) (bss_one (bs_if (PW.pt (bw_or (bt_cmp op_ne o_neS (br_ix (br_ix (br_var 5 (.inl rfl)) (br_var 10 (.inl rfl)) (fun _ _ => rfl)) (br_var 6 (.inl rfl)) (fun _ _ => rfl)) (br_var 9 (.inl rfl)) (nomark _)) (bw_1 (bt_cmp (op_neD hu64) o_ne (br_cutT (br_ix (br_var 5 (.inl rfl)) (br_var 10 (.inl rfl)) (fun _ _ => rfl)) bo_none (bo_some (br_var 6 (.inl rfl)))) (br_tupRange (by rfl) (by rfl) Z.m_tuple (by rfl) Z.m_range (br_var 6 (.inl rfl))) (nomark _))))) (bss_one (bs_ret br_bl)) bss_nil)))
      (bss_one (bs_if (bt_cmp (op_neD hu64) o_ne (br_ix (br_var 5 (.inl rfl)) (br_ix (br_ix (br_var 7 (.inl rfl)) br_int (fun _ _ => rfl)) br_int (fun _ _ => rfl)) (fun _ _ => rfl)) (br_tupRange (by rfl) (by rfl) Z.m_tuple (by rfl) Z.m_range (br_fld Z.oC_Group (i := 1) rfl (br_var 0 (.inl rfl)))) (nomark _)) (bss_one (bs_ret br_bl)) bss_nil)))))
      (bss_one (bs_ret br_bl))))))
theorem ok__law_recipe_right (Z : Facts K T mg) : FnOk P w K mg base (L2.CX P w) 6 Z.a__law_recipe_right Z.fd__law_recipe_right ["hand", "group", "window", "makers", "whole"] (Br.spM K T f__law_recipe_right) := by
  refine br_def (N := ["hand", "group", "window", "makers", "whole", "due", "lines", "named", "line", "k"]) (b := b__law_recipe_right) Z.F__law_recipe_right sc__law_recipe_right fun cdv A outer s H E hr => ?_
  have nd := sc__law_recipe_right.nd
  have tk := takes_of (E := E) (X := cxOf (L2.CX P w) P w K mg base ["hand", "group", "window", "makers", "whole", "due", "lines", "named", "line", "k"] "_law_recipe_right" (defScope (topS 41)) Z.a__law_recipe_right cdv A outer s H E) rfl rfl rfl rfl
  have po := passes_of (X := cxOf (L2.CX P w) P w K mg base ["hand", "group", "window", "makers", "whole", "due", "lines", "named", "line", "k"] "_law_recipe_right" (defScope (topS 41)) Z.a__law_recipe_right cdv A outer s H E) rfl
  have hu := hu_of hr
  have hu64 := hr.units
  have hu65 := hu65_of hr
  have hu66 := hu66_of hr
  exact (bss_cons (bs_set (i := 5) nd rfl (.inl rfl) (br_call (FnOk.pop (ok__law_made Z)) (hr.mono (by decide)) (by rfl) Z.g__law_made Z.F__law_made.kp Z.b__law_made tk (br_acons (br_fld Z.oC_Group (i := 1) rfl (br_var 1 (.inl rfl))) (br_acons (br_var 2 (.inl rfl)) (br_acons (br_call (FnOk.pop (ok__law_by_number Z)) (hr.mono (by decide)) (by rfl) Z.g__law_by_number Z.F__law_by_number.kp Z.b__law_by_number tk (br_acons (br_var 2 (.inl rfl)) (br_acons (br_call (FnOk.pop (ok__law_drawn_below Z)) (hr.mono (by decide)) (by rfl) Z.g__law_drawn_below Z.F__law_drawn_below.kp Z.b__law_drawn_below tk (br_acons (br_var 0 (.inl rfl)) (br_acons (br_var 4 (.inl rfl)) br_anil))) br_anil))) br_anil)))))
      (bss_cons (bs_set (i := 6) nd rfl (.inl rfl) (br_meth Z.oC_Group (by decide) Z.mm_Group_recipe (FnOk.pop (ok_Group_recipe Z)) (hr.mono (by decide)) Z.b_Group_recipe tk (br_var 1 (.inl rfl)) (br_acons (br_var 5 (.inl rfl)) br_anil)))
      (bss_cons (bs_set (i := 7) nd rfl (.inl rfl) br_dict0)
      (bss_cons (bs_for po (by rfl) (bi_list (br_var 6 (.inl rfl))) (bg_name (i := 8) nd rfl (.inl rfl)) (bss_one (bs_if (bt_cmp op_in_seq o_inF (br_ix (br_var 8 (.inl rfl)) br_int (fun _ _ => rfl)) (br_tup (br_acons br_str (br_acons br_str br_anil))) (by rfl)) (bss_one (bs_for po (by rfl) (bi_tup (br_cutT (br_var 8 (.inl rfl)) (bo_some br_int) bo_none)) (bg_name (i := 9) nd rfl (.inl rfl)) (bss_one (bs_putD hu (br_var 7 (.inl rfl)) (br_var 9 (.inl rfl)) br_bl)))) bss_nil)))
      (bss_one (bs_ret (br_and (br_cmp (op_eqD hu64) o_eq (br_ix (br_call (FnOk.pop (ok__law_worked Z)) (hr.mono (by decide)) (by rfl) Z.g__law_worked Z.F__law_worked.kp Z.b__law_worked tk (br_acons (br_var 6 (.inl rfl)) (br_acons (br_var 3 (.inl rfl)) (br_acons (br_fld Z.oC_Group (i := 1) rfl (br_var 1 (.inl rfl))) br_anil)))) (br_un un_neg o_neg br_int) (fun _ _ => rfl)) (br_var 5 (.inl rfl)) (nomark _)) (br_one (br_cmp (op_eqD hu64) o_eq (br_L (bl_sorted hu66 (by rfl) Z.m_sorted (br_L (bl_keys (by rfl) (by rfl) Z.m_list (br_var 7 (.inl rfl)))))) (br_L (br_listRange (by rfl) (by rfl) Z.m_list (by rfl) Z.m_range (br_bin op_sub o_sub (bB_1 call_len_seq o_len (by rfl) Z.m_len PySem.boot_len (br_var 6 (.inl rfl))) br_int))) (nomark _))))))))))
theorem ok_law (Z : Facts K T mg) : FnOk P w K mg base (L2.CX P w) 8 Z.a_law Z.fd_law ["script"] (Br.spM K T f_law) := by
  refine br_def (N := ["script", "turn", "hand", "n", "many", "strewn", "window", "whole", "k", "makers", "group"]) (b := b_law) Z.F_law sc_law fun cdv A outer s H E hr => ?_
  have nd := sc_law.nd
  have tk := takes_of (E := E) (X := cxOf (L2.CX P w) P w K mg base ["script", "turn", "hand", "n", "many", "strewn", "window", "whole", "k", "makers", "group"] "law" (defScope (topS 42)) Z.a_law cdv A outer s H E) rfl rfl rfl rfl
  have po := passes_of (X := cxOf (L2.CX P w) P w K mg base ["script", "turn", "hand", "n", "many", "strewn", "window", "whole", "k", "makers", "group"] "law" (defScope (topS 42)) Z.a_law cdv A outer s H E) rfl
  have hu := hu_of hr
  have hu64 := hr.units
  have hu65 := hu65_of hr
  have hu66 := hu66_of hr
  exact (bss_cons (bs_for po (by rfl) (bi_range (by rfl) Z.m_range (bB_2 (call_max2 (by rfl)) o_max2 (by rfl) Z.m_max PyProof.Rows.boot_max br_int (bB_2 (call_min2 (by rfl)) o_min2 (by rfl) Z.m_min PyProof.Rows.boot_min br_int (bB_1 call_len_seq o_len (by rfl) Z.m_len PySem.boot_len (br_var 0 (.inl rfl)))))) (bg_name (i := 1) nd rfl (.inl rfl)) (bss_cons (bs_set (i := 2) nd rfl (.inl rfl) (br_call (ok__law_hand Z) (hr.mono (by decide)) (by rfl) Z.g__law_hand Z.F__law_hand.kp Z.b__law_hand tk (br_acons (br_var 0 (.inl rfl)) (br_acons (br_var 1 (.inl rfl)) br_anil))))
      (bss_cons (bs_set (i := 3) nd rfl (.inl rfl) (br_bin op_add o_add br_int (br_call (FnOk.pop (ok__law_take Z)) (hr.mono (by decide)) (by rfl) Z.g__law_take Z.F__law_take.kp Z.b__law_take tk (br_acons (br_var 2 (.inl rfl)) (br_acons br_int br_anil)))))
      (bss_cons (bs_set (i := 4) nd rfl (.inl rfl) (br_bin op_add o_add (br_var 3 (.inl rfl)) (br_call (FnOk.pop (ok__law_take Z)) (hr.mono (by decide)) (by rfl) Z.g__law_take Z.F__law_take.kp Z.b__law_take tk (br_acons (br_var 2 (.inl rfl)) (br_acons br_int br_anil)))))
      (bss_cons (bs_set (i := 5) nd rfl (.inl rfl) (br_L (bl_cut (br_L (br_list (by rfl) Z.m_list (br_call (FnOk.pop (ok__law_turning Z)) (hr.mono (by decide)) (by rfl) Z.g__law_turning Z.F__law_turning.kp Z.b__law_turning tk (br_acons (br_var 2 (.inl rfl)) (br_acons (br_var 4 (.inl rfl)) br_anil))))) bo_none (bo_some (br_var 3 (.inl rfl))))))
      (bss_cons (bs_par (i := 6) (j := 7) (by rfl) nd rfl rfl (by decide) rfl rfl (br_L (bl_sorted hu66 (by rfl) Z.m_sorted (br_var 5 (.inl rfl)))) br_int (hp := fun h => ps_par (by rfl) nd rfl rfl (by decide) rfl rfl h (by rfl)))
      (bss_cons (bs_for po (by rfl) (bi_range2 (by rfl) Z.m_range br_int (br_bin op_add o_add (br_var 3 (.inl rfl)) br_int)) (bg_name (i := 8) nd rfl (.inl rfl)) (bss_one (bs_set (i := 7) nd rfl (.inl rfl) (br_bin op_mulW o_mul (br_var 7 (.inl rfl)) (br_var 8 (.inl rfl))))))
      (bss_cons (bs_set (i := 9) nd rfl (.inl rfl) (br_L (br_lst (br_acons (br_call (FnOk.pop (ok__law_made Z)) (hr.mono (by decide)) (by rfl) Z.g__law_made Z.F__law_made.kp Z.b__law_made tk (br_acons (br_var 4 (.inl rfl)) (br_acons (br_var 5 (.inl rfl)) (br_acons (br_L (bl_add (br_L (bl_cut (br_var 5 (.inl rfl)) (bo_some br_int) bo_none)) (br_L (bl_cut (br_var 5 (.inl rfl)) bo_none (bo_some br_int))))) br_anil)))) (br_acons (br_call (FnOk.pop (ok__law_made Z)) (hr.mono (by decide)) (by rfl) Z.g__law_made Z.F__law_made.kp Z.b__law_made tk (br_acons (br_var 4 (.inl rfl)) (br_acons (br_L (bl_cut (br_var 5 (.inl rfl)) bo_none (bo_some br_int))) (br_acons (br_L (bl_backF (br_var 5 (.inl rfl)) br_int)) br_anil)))) br_anil)))))
      (bss_cons (bs_set (i := 10) nd rfl (.inl rfl) (br_make Z.oC_Group Z.mk_Group (ok_Group___init__ Z) (hr.mono (by decide)) (by rfl) Z.gC_Group Z.b_Group___init__ tk (br_acons (br_var 4 (.inl rfl)) (br_acons (br_L (br_list (by rfl) Z.m_list (br_var 9 (.inl rfl)))) br_anil))))
      (bss_cons (bs_if (PW.pt (bw_or (bt_not (bt_val (br_call (FnOk.pop (ok__law_numbers_right Z)) (hr.mono (by decide)) (by rfl) Z.g__law_numbers_right Z.F__law_numbers_right.kp Z.b__law_numbers_right tk (br_acons (br_var 2 (.inl rfl)) (br_acons (br_var 10 (.inl rfl)) (br_acons (br_var 6 (.inl rfl)) (br_acons (br_var 7 (.inl rfl)) br_anil))))))) (bw_1 (bt_not (bt_val (br_call (FnOk.pop (ok__law_lifts_right Z)) (hr.mono (by decide)) (by rfl) Z.g__law_lifts_right Z.F__law_lifts_right.kp Z.b__law_lifts_right tk (br_acons (br_var 2 (.inl rfl)) (br_acons (br_var 10 (.inl rfl)) (br_acons (br_var 6 (.inl rfl)) br_anil))))))))) (bss_one (bs_ret br_bl)) bss_nil)
      (bss_cons (bs_if (bt_not (bt_val (br_call (FnOk.pop (ok__law_paper_right Z)) (hr.mono (by decide)) (by rfl) Z.g__law_paper_right Z.F__law_paper_right.kp Z.b__law_paper_right tk (br_acons (br_var 10 (.inl rfl)) (br_acons (br_var 6 (.inl rfl)) (br_acons (br_var 9 (.inl rfl)) br_anil)))))) (bss_one (bs_ret br_bl)) bss_nil)
      (bss_one (bs_if (bt_not (bt_val (br_call (FnOk.pop (ok__law_recipe_right Z)) (hr.mono (by decide)) (by rfl) Z.g__law_recipe_right Z.F__law_recipe_right.kp Z.b__law_recipe_right tk (br_acons (br_var 2 (.inl rfl)) (br_acons (br_var 10 (.inl rfl)) (br_acons (br_var 6 (.inl rfl)) (br_acons (br_var 9 (.inl rfl)) (br_acons (br_var 7 (.inl rfl)) br_anil)))))))) (bss_one (bs_ret br_bl)) bss_nil)))))))))))))
      (bss_one (bs_ret br_bl)))
end
end k91
end
set_option Elab.async false
set_option linter.all false
set_option maxRecDepth 100000
set_option maxHeartbeats 4000000
namespace k91
open PySem PySem.Spec PyProof.Rows L2 Mi Br
open tb (f_Chain___init__ b_Chain___init__ f_Chain_add b_Chain_add f_Chain_grown b_Chain_grown f_Chain_has b_Chain_has f_Chain_least b_Chain_least f_Chain_line_of b_Chain_line_of f_Chain_noted b_Chain_noted f_Chain_rest b_Chain_rest f_Chain_size b_Chain_size f_Group___init__ b_Group___init__ f_Group_base b_Group_base f_Group_ground b_Group_ground f_Group_has b_Group_has f_Group_least b_Group_least f_Group_lift b_Group_lift f_Group_nth b_Group_nth f_Group_paper b_Group_paper f_Group_place_of b_Group_place_of f_Group_recipe b_Group_recipe f_Group_ring_at b_Group_ring_at f_Group_size b_Group_size f_Group_told b_Group_told f_Step___init__ b_Step___init__ f_back b_back f_behind b_behind f_is_of b_is_of f_is_turning b_is_turning f_is_whole b_is_whole f_lines_named b_lines_named f_looked_makers b_looked_makers f_still b_still f_trimmed b_trimmed)
theorem all_mk {l : PySem.W.OpenLaw} {w : World} {K : PySem.W.Frag} {h : Heap} {mg : Str → Option Value} {fa : Addr} (X : K.In h) (G : h.Ns mainGlobals mg) (hfa : mg "law" = some (.ref fa))
    {C_Step C_Chain C_Group C_NoGroup C_NoNumber C_NoTurning C_NotIn C_TurnError : Addr}
    {f0 : Addr} {od0 an0 : Option Addr} {sl0 : Array (Option Value)} {oc0 kV0 dc0 pm0 cd0 ct0 : Value}
    {f1 : Addr} {od1 an1 : Option Addr} {sl1 : Array (Option Value)} {oc1 kV1 dc1 pm1 cd1 ct1 : Value}
    {f2 : Addr} {od2 an2 : Option Addr} {sl2 : Array (Option Value)} {oc2 kV2 dc2 pm2 cd2 ct2 : Value}
    {f3 : Addr} {od3 an3 : Option Addr} {sl3 : Array (Option Value)} {oc3 kV3 dc3 pm3 cd3 ct3 : Value}
    {f4 : Addr} {od4 an4 : Option Addr} {sl4 : Array (Option Value)} {oc4 kV4 dc4 pm4 cd4 ct4 : Value}
    {f5 : Addr} {od5 an5 : Option Addr} {sl5 : Array (Option Value)} {oc5 kV5 dc5 pm5 cd5 ct5 : Value}
    {f6 : Addr} {od6 an6 : Option Addr} {sl6 : Array (Option Value)} {oc6 kV6 dc6 pm6 cd6 ct6 : Value}
    {f7 : Addr} {od7 an7 : Option Addr} {sl7 : Array (Option Value)} {oc7 kV7 dc7 pm7 cd7 ct7 : Value}
    {f8 : Addr} {od8 an8 : Option Addr} {sl8 : Array (Option Value)} {oc8 kV8 dc8 pm8 cd8 ct8 : Value}
    {f9 : Addr} {od9 an9 : Option Addr} {sl9 : Array (Option Value)} {oc9 kV9 dc9 pm9 cd9 ct9 : Value}
    {f10 : Addr} {od10 an10 : Option Addr} {sl10 : Array (Option Value)} {oc10 kV10 dc10 pm10 cd10 ct10 : Value}
    {f11 : Addr} {od11 an11 : Option Addr} {sl11 : Array (Option Value)} {oc11 kV11 dc11 pm11 cd11 ct11 : Value}
    {f12 : Addr} {od12 an12 : Option Addr} {sl12 : Array (Option Value)} {oc12 kV12 dc12 pm12 cd12 ct12 : Value}
    {f13 : Addr} {od13 an13 : Option Addr} {sl13 : Array (Option Value)} {oc13 kV13 dc13 pm13 cd13 ct13 : Value}
    {f14 : Addr} {od14 an14 : Option Addr} {sl14 : Array (Option Value)} {oc14 kV14 dc14 pm14 cd14 ct14 : Value}
    {f15 : Addr} {od15 an15 : Option Addr} {sl15 : Array (Option Value)} {oc15 kV15 dc15 pm15 cd15 ct15 : Value}
    {f16 : Addr} {od16 an16 : Option Addr} {sl16 : Array (Option Value)} {oc16 kV16 dc16 pm16 cd16 ct16 : Value}
    {f17 : Addr} {od17 an17 : Option Addr} {sl17 : Array (Option Value)} {oc17 kV17 dc17 pm17 cd17 ct17 : Value}
    {f18 : Addr} {od18 an18 : Option Addr} {sl18 : Array (Option Value)} {oc18 kV18 dc18 pm18 cd18 ct18 : Value}
    {f19 : Addr} {od19 an19 : Option Addr} {sl19 : Array (Option Value)} {oc19 kV19 dc19 pm19 cd19 ct19 : Value}
    {f20 : Addr} {od20 an20 : Option Addr} {sl20 : Array (Option Value)} {oc20 kV20 dc20 pm20 cd20 ct20 : Value}
    {f21 : Addr} {od21 an21 : Option Addr} {sl21 : Array (Option Value)} {oc21 kV21 dc21 pm21 cd21 ct21 : Value}
    {f22 : Addr} {od22 an22 : Option Addr} {sl22 : Array (Option Value)} {oc22 kV22 dc22 pm22 cd22 ct22 : Value}
    {f23 : Addr} {od23 an23 : Option Addr} {sl23 : Array (Option Value)} {oc23 kV23 dc23 pm23 cd23 ct23 : Value}
    {f24 : Addr} {od24 an24 : Option Addr} {sl24 : Array (Option Value)} {oc24 kV24 dc24 pm24 cd24 ct24 : Value}
    {f25 : Addr} {od25 an25 : Option Addr} {sl25 : Array (Option Value)} {oc25 kV25 dc25 pm25 cd25 ct25 : Value}
    {f26 : Addr} {od26 an26 : Option Addr} {sl26 : Array (Option Value)} {oc26 kV26 dc26 pm26 cd26 ct26 : Value}
    {f27 : Addr} {od27 an27 : Option Addr} {sl27 : Array (Option Value)} {oc27 kV27 dc27 pm27 cd27 ct27 : Value}
    {f28 : Addr} {od28 an28 : Option Addr} {sl28 : Array (Option Value)} {oc28 kV28 dc28 pm28 cd28 ct28 : Value}
    {f29 : Addr} {od29 an29 : Option Addr} {sl29 : Array (Option Value)} {oc29 kV29 dc29 pm29 cd29 ct29 : Value}
    {f30 : Addr} {od30 an30 : Option Addr} {sl30 : Array (Option Value)} {oc30 kV30 dc30 pm30 cd30 ct30 : Value}
    {f31 : Addr} {od31 an31 : Option Addr} {sl31 : Array (Option Value)} {oc31 kV31 dc31 pm31 cd31 ct31 : Value}
    {f32 : Addr} {od32 an32 : Option Addr} {sl32 : Array (Option Value)} {oc32 kV32 dc32 pm32 cd32 ct32 : Value}
    {f33 : Addr} {od33 an33 : Option Addr} {sl33 : Array (Option Value)} {oc33 kV33 dc33 pm33 cd33 ct33 : Value}
    {f34 : Addr} {od34 an34 : Option Addr} {sl34 : Array (Option Value)} {oc34 kV34 dc34 pm34 cd34 ct34 : Value}
    {f35 : Addr} {od35 an35 : Option Addr} {sl35 : Array (Option Value)} {oc35 kV35 dc35 pm35 cd35 ct35 : Value}
    {f36 : Addr} {od36 an36 : Option Addr} {sl36 : Array (Option Value)} {oc36 kV36 dc36 pm36 cd36 ct36 : Value}
    {f37 : Addr} {od37 an37 : Option Addr} {sl37 : Array (Option Value)} {oc37 kV37 dc37 pm37 cd37 ct37 : Value}
    {f38 : Addr} {od38 an38 : Option Addr} {sl38 : Array (Option Value)} {oc38 kV38 dc38 pm38 cd38 ct38 : Value}
    {f39 : Addr} {od39 an39 : Option Addr} {sl39 : Array (Option Value)} {oc39 kV39 dc39 pm39 cd39 ct39 : Value}
    {f40 : Addr} {od40 an40 : Option Addr} {sl40 : Array (Option Value)} {oc40 kV40 dc40 pm40 cd40 ct40 : Value}
    {f41 : Addr} {od41 an41 : Option Addr} {sl41 : Array (Option Value)} {oc41 kV41 dc41 pm41 cd41 ct41 : Value}
    {f42 : Addr} {od42 an42 : Option Addr} {sl42 : Array (Option Value)} {oc42 kV42 dc42 pm42 cd42 ct42 : Value}
    {f43 : Addr} {od43 an43 : Option Addr} {sl43 : Array (Option Value)} {oc43 kV43 dc43 pm43 cd43 ct43 : Value}
    {f44 : Addr} {od44 an44 : Option Addr} {sl44 : Array (Option Value)} {oc44 kV44 dc44 pm44 cd44 ct44 : Value}
    {f45 : Addr} {od45 an45 : Option Addr} {sl45 : Array (Option Value)} {oc45 kV45 dc45 pm45 cd45 ct45 : Value}
    {f46 : Addr} {od46 an46 : Option Addr} {sl46 : Array (Option Value)} {oc46 kV46 dc46 pm46 cd46 ct46 : Value}
    {f47 : Addr} {od47 an47 : Option Addr} {sl47 : Array (Option Value)} {oc47 kV47 dc47 pm47 cd47 ct47 : Value}
    (n_Step : PySem.W.nsIn K mainGlobals "Step" = some (some (.ref C_Step)))
    (pg_Step : PySem.W.plainGet K C_Step Str.empty = true)
    (hd_Step : PySem.W.hasDictIn K C_Step = true)
    (po_Step : PySem.W.plainOver K C_Step = true)
    (sa_Step : PySem.W.findIn K (.ref C_Step) "__setattr__" = some (some (.builtin "object.__setattr__")))
    (mk_Step : PySem.W.makesIn K C_Step = true)
    (kc_Step : PySem.W.keepIn K (.ref C_Step) = true)
    (nf_Step_place : PySem.W.findIn K (.ref C_Step) "place" = some none)
    (nf_Step_lifts : PySem.W.findIn K (.ref C_Step) "lifts" = some none)
    (nf_Step_makers : PySem.W.findIn K (.ref C_Step) "makers" = some none)
    (n_Chain : PySem.W.nsIn K mainGlobals "Chain" = some (some (.ref C_Chain)))
    (pg_Chain : PySem.W.plainGet K C_Chain Str.empty = true)
    (hd_Chain : PySem.W.hasDictIn K C_Chain = true)
    (po_Chain : PySem.W.plainOver K C_Chain = true)
    (sa_Chain : PySem.W.findIn K (.ref C_Chain) "__setattr__" = some (some (.builtin "object.__setattr__")))
    (mk_Chain : PySem.W.makesIn K C_Chain = true)
    (kc_Chain : PySem.W.keepIn K (.ref C_Chain) = true)
    (nf_Chain_many : PySem.W.findIn K (.ref C_Chain) "many" = some none)
    (nf_Chain_lines : PySem.W.findIn K (.ref C_Chain) "lines" = some none)
    (nf_Chain_steps : PySem.W.findIn K (.ref C_Chain) "steps" = some none)
    (n_Group : PySem.W.nsIn K mainGlobals "Group" = some (some (.ref C_Group)))
    (pg_Group : PySem.W.plainGet K C_Group Str.empty = true)
    (hd_Group : PySem.W.hasDictIn K C_Group = true)
    (po_Group : PySem.W.plainOver K C_Group = true)
    (sa_Group : PySem.W.findIn K (.ref C_Group) "__setattr__" = some (some (.builtin "object.__setattr__")))
    (mk_Group : PySem.W.makesIn K C_Group = true)
    (kc_Group : PySem.W.keepIn K (.ref C_Group) = true)
    (nf_Group_made : PySem.W.findIn K (.ref C_Group) "made" = some none)
    (nf_Group_many : PySem.W.findIn K (.ref C_Group) "many" = some none)
    (nf_Group_chain : PySem.W.findIn K (.ref C_Group) "chain" = some none)
    (nf_Group_steps : PySem.W.findIn K (.ref C_Group) "steps" = some none)
    (n_NoGroup : PySem.W.nsIn K mainGlobals "NoGroup" = some (some (.ref C_NoGroup)))
    (x_NoGroup : PySem.W.excIn K C_NoGroup [.type "ValueError", .type "Exception", .type "BaseException", .type "object"] "ValueError.__new__" = true)
    (k_NoGroup : PySem.W.keepIn K (.ref C_NoGroup) = true)
    (b_NoGroup : PySem.W.subIn K (.ref C_NoGroup) (.type "BaseException") = some true)
    (y_NoGroup : PySem.W.typeIn K (.ref C_NoGroup) = some (.type "type"))
    (n_NoNumber : PySem.W.nsIn K mainGlobals "NoNumber" = some (some (.ref C_NoNumber)))
    (x_NoNumber : PySem.W.excIn K C_NoNumber [.type "ValueError", .type "Exception", .type "BaseException", .type "object"] "ValueError.__new__" = true)
    (k_NoNumber : PySem.W.keepIn K (.ref C_NoNumber) = true)
    (b_NoNumber : PySem.W.subIn K (.ref C_NoNumber) (.type "BaseException") = some true)
    (y_NoNumber : PySem.W.typeIn K (.ref C_NoNumber) = some (.type "type"))
    (n_NoTurning : PySem.W.nsIn K mainGlobals "NoTurning" = some (some (.ref C_NoTurning)))
    (x_NoTurning : PySem.W.excIn K C_NoTurning [.type "ValueError", .type "Exception", .type "BaseException", .type "object"] "ValueError.__new__" = true)
    (k_NoTurning : PySem.W.keepIn K (.ref C_NoTurning) = true)
    (b_NoTurning : PySem.W.subIn K (.ref C_NoTurning) (.type "BaseException") = some true)
    (y_NoTurning : PySem.W.typeIn K (.ref C_NoTurning) = some (.type "type"))
    (n_NotIn : PySem.W.nsIn K mainGlobals "NotIn" = some (some (.ref C_NotIn)))
    (x_NotIn : PySem.W.excIn K C_NotIn [.type "ValueError", .type "Exception", .type "BaseException", .type "object"] "ValueError.__new__" = true)
    (k_NotIn : PySem.W.keepIn K (.ref C_NotIn) = true)
    (b_NotIn : PySem.W.subIn K (.ref C_NotIn) (.type "BaseException") = some true)
    (y_NotIn : PySem.W.typeIn K (.ref C_NotIn) = some (.type "type"))
    (n_TurnError : PySem.W.nsIn K mainGlobals "TurnError" = some (some (.ref C_TurnError)))
    (x_TurnError : PySem.W.excIn K C_TurnError [.type "ValueError", .type "Exception", .type "BaseException", .type "object"] "ValueError.__new__" = true)
    (k_TurnError : PySem.W.keepIn K (.ref C_TurnError) = true)
    (b_TurnError : PySem.W.subIn K (.ref C_TurnError) (.type "BaseException") = some true)
    (y_TurnError : PySem.W.typeIn K (.ref C_TurnError) = some (.type "type"))
    (i_NoNumber : PySem.W.isClsIn K C_NoNumber = true)
    (s_TurnError_NoNumber : PySem.W.subIn K (.ref C_TurnError) (.ref C_NoNumber) = some false)
    (s_NoTurning_NoNumber : PySem.W.subIn K (.ref C_NoTurning) (.ref C_NoNumber) = some false)
    (s_NoGroup_NoNumber : PySem.W.subIn K (.ref C_NoGroup) (.ref C_NoNumber) = some false)
    (s_NoNumber_NoNumber : PySem.W.subIn K (.ref C_NoNumber) (.ref C_NoNumber) = some true)
    (s_NotIn_NoNumber : PySem.W.subIn K (.ref C_NotIn) (.ref C_NoNumber) = some false)
    (i_NotIn : PySem.W.isClsIn K C_NotIn = true)
    (s_TurnError_NotIn : PySem.W.subIn K (.ref C_TurnError) (.ref C_NotIn) = some false)
    (s_NoTurning_NotIn : PySem.W.subIn K (.ref C_NoTurning) (.ref C_NotIn) = some false)
    (s_NoGroup_NotIn : PySem.W.subIn K (.ref C_NoGroup) (.ref C_NotIn) = some false)
    (s_NoNumber_NotIn : PySem.W.subIn K (.ref C_NoNumber) (.ref C_NotIn) = some false)
    (s_NotIn_NotIn : PySem.W.subIn K (.ref C_NotIn) (.ref C_NotIn) = some true)
    (i_TurnError : PySem.W.isClsIn K C_TurnError = true)
    (s_TurnError_TurnError : PySem.W.subIn K (.ref C_TurnError) (.ref C_TurnError) = some true)
    (s_NoTurning_TurnError : PySem.W.subIn K (.ref C_NoTurning) (.ref C_TurnError) = some true)
    (s_NoGroup_TurnError : PySem.W.subIn K (.ref C_NoGroup) (.ref C_TurnError) = some true)
    (s_NoNumber_TurnError : PySem.W.subIn K (.ref C_NoNumber) (.ref C_TurnError) = some true)
    (s_NotIn_TurnError : PySem.W.subIn K (.ref C_NotIn) (.ref C_TurnError) = some true)
    (a0 : PySem.W.nsIn K mainGlobals "is_whole" = some (some (.ref f0)))
    (l0 : K.lookup f0 = some ⟨oc0, od0, .func (PySem.W.fnOf "is_whole" "is_whole" (defArgs (topS 3)) (defBody (topS 3)) (defScope (topS 3)) .none kV0 dc0 pm0 an0 cd0 ct0), sl0⟩)
    (c0 : PySem.W.codeIn K cd0 "is_whole" = true)
    (k0 : PySem.W.keepIn K (.ref f0) = true)
    (a1 : PySem.W.nsIn K mainGlobals "is_turning" = some (some (.ref f1)))
    (l1 : K.lookup f1 = some ⟨oc1, od1, .func (PySem.W.fnOf "is_turning" "is_turning" (defArgs (topS 4)) (defBody (topS 4)) (defScope (topS 4)) .none kV1 dc1 pm1 an1 cd1 ct1), sl1⟩)
    (c1 : PySem.W.codeIn K cd1 "is_turning" = true)
    (k1 : PySem.W.keepIn K (.ref f1) = true)
    (a2 : PySem.W.nsIn K mainGlobals "still" = some (some (.ref f2)))
    (l2 : K.lookup f2 = some ⟨oc2, od2, .func (PySem.W.fnOf "still" "still" (defArgs (topS 5)) (defBody (topS 5)) (defScope (topS 5)) .none kV2 dc2 pm2 an2 cd2 ct2), sl2⟩)
    (c2 : PySem.W.codeIn K cd2 "still" = true)
    (k2 : PySem.W.keepIn K (.ref f2) = true)
    (a3 : PySem.W.nsIn K mainGlobals "behind" = some (some (.ref f3)))
    (l3 : K.lookup f3 = some ⟨oc3, od3, .func (PySem.W.fnOf "behind" "behind" (defArgs (topS 6)) (defBody (topS 6)) (defScope (topS 6)) .none kV3 dc3 pm3 an3 cd3 ct3), sl3⟩)
    (c3 : PySem.W.codeIn K cd3 "behind" = true)
    (k3 : PySem.W.keepIn K (.ref f3) = true)
    (a4 : PySem.W.nsIn K mainGlobals "back" = some (some (.ref f4)))
    (l4 : K.lookup f4 = some ⟨oc4, od4, .func (PySem.W.fnOf "back" "back" (defArgs (topS 7)) (defBody (topS 7)) (defScope (topS 7)) .none kV4 dc4 pm4 an4 cd4 ct4), sl4⟩)
    (c4 : PySem.W.codeIn K cd4 "back" = true)
    (k4 : PySem.W.keepIn K (.ref f4) = true)
    (a5 : PySem.W.findIn K (.ref C_Step) "__init__" = some (some (.ref f5)))
    (i5 : PySem.W.isFn K (.ref f5) = true)
    (l5 : K.lookup f5 = some ⟨oc5, od5, .func (PySem.W.fnOf "__init__" "Step.__init__" (defArgs (inClass (topS 9) 0)) (defBody (inClass (topS 9) 0)) (defScope (inClass (topS 9) 0)) .none kV5 dc5 pm5 an5 cd5 ct5), sl5⟩)
    (c5 : PySem.W.codeIn K cd5 "Step.__init__" = true)
    (k5 : PySem.W.keepIn K (.ref f5) = true)
    (a6 : PySem.W.findIn K (.ref C_Chain) "__init__" = some (some (.ref f6)))
    (i6 : PySem.W.isFn K (.ref f6) = true)
    (l6 : K.lookup f6 = some ⟨oc6, od6, .func (PySem.W.fnOf "__init__" "Chain.__init__" (defArgs (inClass (topS 10) 0)) (defBody (inClass (topS 10) 0)) (defScope (inClass (topS 10) 0)) .none kV6 dc6 pm6 an6 cd6 ct6), sl6⟩)
    (c6 : PySem.W.codeIn K cd6 "Chain.__init__" = true)
    (k6 : PySem.W.keepIn K (.ref f6) = true)
    (a7 : PySem.W.findIn K (.ref C_Chain) "noted" = some (some (.ref f7)))
    (i7 : PySem.W.isFn K (.ref f7) = true)
    (l7 : K.lookup f7 = some ⟨oc7, od7, .func (PySem.W.fnOf "noted" "Chain.noted" (defArgs (inClass (topS 10) 1)) (defBody (inClass (topS 10) 1)) (defScope (inClass (topS 10) 1)) .none kV7 dc7 pm7 an7 cd7 ct7), sl7⟩)
    (c7 : PySem.W.codeIn K cd7 "Chain.noted" = true)
    (k7 : PySem.W.keepIn K (.ref f7) = true)
    (a8 : PySem.W.findIn K (.ref C_Chain) "line_of" = some (some (.ref f8)))
    (i8 : PySem.W.isFn K (.ref f8) = true)
    (l8 : K.lookup f8 = some ⟨oc8, od8, .func (PySem.W.fnOf "line_of" "Chain.line_of" (defArgs (inClass (topS 10) 2)) (defBody (inClass (topS 10) 2)) (defScope (inClass (topS 10) 2)) .none kV8 dc8 pm8 an8 cd8 ct8), sl8⟩)
    (c8 : PySem.W.codeIn K cd8 "Chain.line_of" = true)
    (k8 : PySem.W.keepIn K (.ref f8) = true)
    (a9 : PySem.W.findIn K (.ref C_Chain) "rest" = some (some (.ref f9)))
    (i9 : PySem.W.isFn K (.ref f9) = true)
    (l9 : K.lookup f9 = some ⟨oc9, od9, .func (PySem.W.fnOf "rest" "Chain.rest" (defArgs (inClass (topS 10) 3)) (defBody (inClass (topS 10) 3)) (defScope (inClass (topS 10) 3)) .none kV9 dc9 pm9 an9 cd9 ct9), sl9⟩)
    (c9 : PySem.W.codeIn K cd9 "Chain.rest" = true)
    (k9 : PySem.W.keepIn K (.ref f9) = true)
    (a10 : PySem.W.findIn K (.ref C_Chain) "has" = some (some (.ref f10)))
    (i10 : PySem.W.isFn K (.ref f10) = true)
    (l10 : K.lookup f10 = some ⟨oc10, od10, .func (PySem.W.fnOf "has" "Chain.has" (defArgs (inClass (topS 10) 4)) (defBody (inClass (topS 10) 4)) (defScope (inClass (topS 10) 4)) .none kV10 dc10 pm10 an10 cd10 ct10), sl10⟩)
    (c10 : PySem.W.codeIn K cd10 "Chain.has" = true)
    (k10 : PySem.W.keepIn K (.ref f10) = true)
    (a11 : PySem.W.findIn K (.ref C_Chain) "size" = some (some (.ref f11)))
    (i11 : PySem.W.isFn K (.ref f11) = true)
    (l11 : K.lookup f11 = some ⟨oc11, od11, .func (PySem.W.fnOf "size" "Chain.size" (defArgs (inClass (topS 10) 5)) (defBody (inClass (topS 10) 5)) (defScope (inClass (topS 10) 5)) .none kV11 dc11 pm11 an11 cd11 ct11), sl11⟩)
    (c11 : PySem.W.codeIn K cd11 "Chain.size" = true)
    (k11 : PySem.W.keepIn K (.ref f11) = true)
    (a12 : PySem.W.findIn K (.ref C_Chain) "least" = some (some (.ref f12)))
    (i12 : PySem.W.isFn K (.ref f12) = true)
    (l12 : K.lookup f12 = some ⟨oc12, od12, .func (PySem.W.fnOf "least" "Chain.least" (defArgs (inClass (topS 10) 6)) (defBody (inClass (topS 10) 6)) (defScope (inClass (topS 10) 6)) .none kV12 dc12 pm12 an12 cd12 ct12), sl12⟩)
    (c12 : PySem.W.codeIn K cd12 "Chain.least" = true)
    (k12 : PySem.W.keepIn K (.ref f12) = true)
    (a13 : PySem.W.findIn K (.ref C_Chain) "grown" = some (some (.ref f13)))
    (i13 : PySem.W.isFn K (.ref f13) = true)
    (l13 : K.lookup f13 = some ⟨oc13, od13, .func (PySem.W.fnOf "grown" "Chain.grown" (defArgs (inClass (topS 10) 8)) (defBody (inClass (topS 10) 8)) (defScope (inClass (topS 10) 8)) .none kV13 dc13 pm13 an13 cd13 ct13), sl13⟩)
    (c13 : PySem.W.codeIn K cd13 "Chain.grown" = true)
    (k13 : PySem.W.keepIn K (.ref f13) = true)
    (a14 : PySem.W.findIn K (.ref C_Chain) "add" = some (some (.ref f14)))
    (i14 : PySem.W.isFn K (.ref f14) = true)
    (l14 : K.lookup f14 = some ⟨oc14, od14, .func (PySem.W.fnOf "add" "Chain.add" (defArgs (inClass (topS 10) 7)) (defBody (inClass (topS 10) 7)) (defScope (inClass (topS 10) 7)) .none kV14 dc14 pm14 an14 cd14 ct14), sl14⟩)
    (c14 : PySem.W.codeIn K cd14 "Chain.add" = true)
    (k14 : PySem.W.keepIn K (.ref f14) = true)
    (a15 : PySem.W.nsIn K mainGlobals "lines_named" = some (some (.ref f15)))
    (l15 : K.lookup f15 = some ⟨oc15, od15, .func (PySem.W.fnOf "lines_named" "lines_named" (defArgs (topS 18)) (defBody (topS 18)) (defScope (topS 18)) .none kV15 dc15 pm15 an15 cd15 ct15), sl15⟩)
    (c15 : PySem.W.codeIn K cd15 "lines_named" = true)
    (k15 : PySem.W.keepIn K (.ref f15) = true)
    (a16 : PySem.W.nsIn K mainGlobals "trimmed" = some (some (.ref f16)))
    (l16 : K.lookup f16 = some ⟨oc16, od16, .func (PySem.W.fnOf "trimmed" "trimmed" (defArgs (topS 19)) (defBody (topS 19)) (defScope (topS 19)) .none kV16 dc16 pm16 an16 cd16 ct16), sl16⟩)
    (c16 : PySem.W.codeIn K cd16 "trimmed" = true)
    (k16 : PySem.W.keepIn K (.ref f16) = true)
    (a17 : PySem.W.nsIn K mainGlobals "is_of" = some (some (.ref f17)))
    (l17 : K.lookup f17 = some ⟨oc17, od17, .func (PySem.W.fnOf "is_of" "is_of" (defArgs (topS 23)) (defBody (topS 23)) (defScope (topS 23)) .none kV17 dc17 pm17 an17 cd17 ct17), sl17⟩)
    (c17 : PySem.W.codeIn K cd17 "is_of" = true)
    (k17 : PySem.W.keepIn K (.ref f17) = true)
    (a18 : PySem.W.nsIn K mainGlobals "looked_makers" = some (some (.ref f18)))
    (l18 : K.lookup f18 = some ⟨oc18, od18, .func (PySem.W.fnOf "looked_makers" "looked_makers" (defArgs (topS 24)) (defBody (topS 24)) (defScope (topS 24)) .none kV18 dc18 pm18 an18 cd18 ct18), sl18⟩)
    (c18 : PySem.W.codeIn K cd18 "looked_makers" = true)
    (k18 : PySem.W.keepIn K (.ref f18) = true)
    (a19 : PySem.W.findIn K (.ref C_Group) "__init__" = some (some (.ref f19)))
    (i19 : PySem.W.isFn K (.ref f19) = true)
    (l19 : K.lookup f19 = some ⟨oc19, od19, .func (PySem.W.fnOf "__init__" "Group.__init__" (defArgs (inClass (topS 25) 0)) (defBody (inClass (topS 25) 0)) (defScope (inClass (topS 25) 0)) .none kV19 dc19 pm19 an19 cd19 ct19), sl19⟩)
    (c19 : PySem.W.codeIn K cd19 "Group.__init__" = true)
    (k19 : PySem.W.keepIn K (.ref f19) = true)
    (a20 : PySem.W.findIn K (.ref C_Group) "told" = some (some (.ref f20)))
    (i20 : PySem.W.isFn K (.ref f20) = true)
    (l20 : K.lookup f20 = some ⟨oc20, od20, .func (PySem.W.fnOf "told" "Group.told" (defArgs (inClass (topS 25) 1)) (defBody (inClass (topS 25) 1)) (defScope (inClass (topS 25) 1)) .none kV20 dc20 pm20 an20 cd20 ct20), sl20⟩)
    (c20 : PySem.W.codeIn K cd20 "Group.told" = true)
    (k20 : PySem.W.keepIn K (.ref f20) = true)
    (a21 : PySem.W.findIn K (.ref C_Group) "size" = some (some (.ref f21)))
    (i21 : PySem.W.isFn K (.ref f21) = true)
    (l21 : K.lookup f21 = some ⟨oc21, od21, .func (PySem.W.fnOf "size" "Group.size" (defArgs (inClass (topS 25) 2)) (defBody (inClass (topS 25) 2)) (defScope (inClass (topS 25) 2)) .none kV21 dc21 pm21 an21 cd21 ct21), sl21⟩)
    (c21 : PySem.W.codeIn K cd21 "Group.size" = true)
    (k21 : PySem.W.keepIn K (.ref f21) = true)
    (a22 : PySem.W.findIn K (.ref C_Group) "has" = some (some (.ref f22)))
    (i22 : PySem.W.isFn K (.ref f22) = true)
    (l22 : K.lookup f22 = some ⟨oc22, od22, .func (PySem.W.fnOf "has" "Group.has" (defArgs (inClass (topS 25) 3)) (defBody (inClass (topS 25) 3)) (defScope (inClass (topS 25) 3)) .none kV22 dc22 pm22 an22 cd22 ct22), sl22⟩)
    (c22 : PySem.W.codeIn K cd22 "Group.has" = true)
    (k22 : PySem.W.keepIn K (.ref f22) = true)
    (a23 : PySem.W.findIn K (.ref C_Group) "base" = some (some (.ref f23)))
    (i23 : PySem.W.isFn K (.ref f23) = true)
    (l23 : K.lookup f23 = some ⟨oc23, od23, .func (PySem.W.fnOf "base" "Group.base" (defArgs (inClass (topS 25) 4)) (defBody (inClass (topS 25) 4)) (defScope (inClass (topS 25) 4)) .none kV23 dc23 pm23 an23 cd23 ct23), sl23⟩)
    (c23 : PySem.W.codeIn K cd23 "Group.base" = true)
    (k23 : PySem.W.keepIn K (.ref f23) = true)
    (a24 : PySem.W.findIn K (.ref C_Group) "ring_at" = some (some (.ref f24)))
    (i24 : PySem.W.isFn K (.ref f24) = true)
    (l24 : K.lookup f24 = some ⟨oc24, od24, .func (PySem.W.fnOf "ring_at" "Group.ring_at" (defArgs (inClass (topS 25) 5)) (defBody (inClass (topS 25) 5)) (defScope (inClass (topS 25) 5)) .none kV24 dc24 pm24 an24 cd24 ct24), sl24⟩)
    (c24 : PySem.W.codeIn K cd24 "Group.ring_at" = true)
    (k24 : PySem.W.keepIn K (.ref f24) = true)
    (a25 : PySem.W.findIn K (.ref C_Group) "lift" = some (some (.ref f25)))
    (i25 : PySem.W.isFn K (.ref f25) = true)
    (l25 : K.lookup f25 = some ⟨oc25, od25, .func (PySem.W.fnOf "lift" "Group.lift" (defArgs (inClass (topS 25) 6)) (defBody (inClass (topS 25) 6)) (defScope (inClass (topS 25) 6)) .none kV25 dc25 pm25 an25 cd25 ct25), sl25⟩)
    (c25 : PySem.W.codeIn K cd25 "Group.lift" = true)
    (k25 : PySem.W.keepIn K (.ref f25) = true)
    (a26 : PySem.W.findIn K (.ref C_Group) "ground" = some (some (.ref f26)))
    (i26 : PySem.W.isFn K (.ref f26) = true)
    (l26 : K.lookup f26 = some ⟨oc26, od26, .func (PySem.W.fnOf "ground" "Group.ground" (defArgs (inClass (topS 25) 7)) (defBody (inClass (topS 25) 7)) (defScope (inClass (topS 25) 7)) .none kV26 dc26 pm26 an26 cd26 ct26), sl26⟩)
    (c26 : PySem.W.codeIn K cd26 "Group.ground" = true)
    (k26 : PySem.W.keepIn K (.ref f26) = true)
    (a27 : PySem.W.findIn K (.ref C_Group) "least" = some (some (.ref f27)))
    (i27 : PySem.W.isFn K (.ref f27) = true)
    (l27 : K.lookup f27 = some ⟨oc27, od27, .func (PySem.W.fnOf "least" "Group.least" (defArgs (inClass (topS 25) 8)) (defBody (inClass (topS 25) 8)) (defScope (inClass (topS 25) 8)) .none kV27 dc27 pm27 an27 cd27 ct27), sl27⟩)
    (c27 : PySem.W.codeIn K cd27 "Group.least" = true)
    (k27 : PySem.W.keepIn K (.ref f27) = true)
    (a28 : PySem.W.findIn K (.ref C_Group) "nth" = some (some (.ref f28)))
    (i28 : PySem.W.isFn K (.ref f28) = true)
    (l28 : K.lookup f28 = some ⟨oc28, od28, .func (PySem.W.fnOf "nth" "Group.nth" (defArgs (inClass (topS 25) 9)) (defBody (inClass (topS 25) 9)) (defScope (inClass (topS 25) 9)) .none kV28 dc28 pm28 an28 cd28 ct28), sl28⟩)
    (c28 : PySem.W.codeIn K cd28 "Group.nth" = true)
    (k28 : PySem.W.keepIn K (.ref f28) = true)
    (a29 : PySem.W.findIn K (.ref C_Group) "place_of" = some (some (.ref f29)))
    (i29 : PySem.W.isFn K (.ref f29) = true)
    (l29 : K.lookup f29 = some ⟨oc29, od29, .func (PySem.W.fnOf "place_of" "Group.place_of" (defArgs (inClass (topS 25) 10)) (defBody (inClass (topS 25) 10)) (defScope (inClass (topS 25) 10)) .none kV29 dc29 pm29 an29 cd29 ct29), sl29⟩)
    (c29 : PySem.W.codeIn K cd29 "Group.place_of" = true)
    (k29 : PySem.W.keepIn K (.ref f29) = true)
    (a30 : PySem.W.findIn K (.ref C_Group) "recipe" = some (some (.ref f30)))
    (i30 : PySem.W.isFn K (.ref f30) = true)
    (l30 : K.lookup f30 = some ⟨oc30, od30, .func (PySem.W.fnOf "recipe" "Group.recipe" (defArgs (inClass (topS 25) 12)) (defBody (inClass (topS 25) 12)) (defScope (inClass (topS 25) 12)) .none kV30 dc30 pm30 an30 cd30 ct30), sl30⟩)
    (c30 : PySem.W.codeIn K cd30 "Group.recipe" = true)
    (k30 : PySem.W.keepIn K (.ref f30) = true)
    (a31 : PySem.W.findIn K (.ref C_Group) "paper" = some (some (.ref f31)))
    (i31 : PySem.W.isFn K (.ref f31) = true)
    (l31 : K.lookup f31 = some ⟨oc31, od31, .func (PySem.W.fnOf "paper" "Group.paper" (defArgs (inClass (topS 25) 13)) (defBody (inClass (topS 25) 13)) (defScope (inClass (topS 25) 13)) .none kV31 dc31 pm31 an31 cd31 ct31), sl31⟩)
    (c31 : PySem.W.codeIn K cd31 "Group.paper" = true)
    (k31 : PySem.W.keepIn K (.ref f31) = true)
    (a32 : PySem.W.nsIn K mainGlobals "_law_hand" = some (some (.ref f32)))
    (l32 : K.lookup f32 = some ⟨oc32, od32, .func (PySem.W.fnOf "_law_hand" "_law_hand" (defArgs (topS 27)) (defBody (topS 27)) (defScope (topS 27)) .none kV32 dc32 pm32 an32 cd32 ct32), sl32⟩)
    (c32 : PySem.W.codeIn K cd32 "_law_hand" = true)
    (k32 : PySem.W.keepIn K (.ref f32) = true)
    (a33 : PySem.W.nsIn K mainGlobals "_law_take" = some (some (.ref f33)))
    (l33 : K.lookup f33 = some ⟨oc33, od33, .func (PySem.W.fnOf "_law_take" "_law_take" (defArgs (topS 28)) (defBody (topS 28)) (defScope (topS 28)) .none kV33 dc33 pm33 an33 cd33 ct33), sl33⟩)
    (c33 : PySem.W.codeIn K cd33 "_law_take" = true)
    (k33 : PySem.W.keepIn K (.ref f33) = true)
    (a34 : PySem.W.nsIn K mainGlobals "_law_turning" = some (some (.ref f34)))
    (l34 : K.lookup f34 = some ⟨oc34, od34, .func (PySem.W.fnOf "_law_turning" "_law_turning" (defArgs (topS 29)) (defBody (topS 29)) (defScope (topS 29)) .none kV34 dc34 pm34 an34 cd34 ct34), sl34⟩)
    (c34 : PySem.W.codeIn K cd34 "_law_turning" = true)
    (k34 : PySem.W.keepIn K (.ref f34) = true)
    (a35 : PySem.W.nsIn K mainGlobals "_law_behind" = some (some (.ref f35)))
    (l35 : K.lookup f35 = some ⟨oc35, od35, .func (PySem.W.fnOf "_law_behind" "_law_behind" (defArgs (topS 30)) (defBody (topS 30)) (defScope (topS 30)) .none kV35 dc35 pm35 an35 cd35 ct35), sl35⟩)
    (c35 : PySem.W.codeIn K cd35 "_law_behind" = true)
    (k35 : PySem.W.keepIn K (.ref f35) = true)
    (a36 : PySem.W.nsIn K mainGlobals "_law_back" = some (some (.ref f36)))
    (l36 : K.lookup f36 = some ⟨oc36, od36, .func (PySem.W.fnOf "_law_back" "_law_back" (defArgs (topS 31)) (defBody (topS 31)) (defScope (topS 31)) .none kV36 dc36 pm36 an36 cd36 ct36), sl36⟩)
    (c36 : PySem.W.codeIn K cd36 "_law_back" = true)
    (k36 : PySem.W.keepIn K (.ref f36) = true)
    (a37 : PySem.W.nsIn K mainGlobals "_law_worked" = some (some (.ref f37)))
    (l37 : K.lookup f37 = some ⟨oc37, od37, .func (PySem.W.fnOf "_law_worked" "_law_worked" (defArgs (topS 32)) (defBody (topS 32)) (defScope (topS 32)) .none kV37 dc37 pm37 an37 cd37 ct37), sl37⟩)
    (c37 : PySem.W.codeIn K cd37 "_law_worked" = true)
    (k37 : PySem.W.keepIn K (.ref f37) = true)
    (a38 : PySem.W.nsIn K mainGlobals "_law_made" = some (some (.ref f38)))
    (l38 : K.lookup f38 = some ⟨oc38, od38, .func (PySem.W.fnOf "_law_made" "_law_made" (defArgs (topS 33)) (defBody (topS 33)) (defScope (topS 33)) .none kV38 dc38 pm38 an38 cd38 ct38), sl38⟩)
    (c38 : PySem.W.codeIn K cd38 "_law_made" = true)
    (k38 : PySem.W.keepIn K (.ref f38) = true)
    (a39 : PySem.W.nsIn K mainGlobals "_law_by_number" = some (some (.ref f39)))
    (l39 : K.lookup f39 = some ⟨oc39, od39, .func (PySem.W.fnOf "_law_by_number" "_law_by_number" (defArgs (topS 34)) (defBody (topS 34)) (defScope (topS 34)) .none kV39 dc39 pm39 an39 cd39 ct39), sl39⟩)
    (c39 : PySem.W.codeIn K cd39 "_law_by_number" = true)
    (k39 : PySem.W.keepIn K (.ref f39) = true)
    (a40 : PySem.W.nsIn K mainGlobals "_law_refused" = some (some (.ref f40)))
    (l40 : K.lookup f40 = some ⟨oc40, od40, .func (PySem.W.fnOf "_law_refused" "_law_refused" (defArgs (topS 35)) (defBody (topS 35)) (defScope (topS 35)) .none kV40 dc40 pm40 an40 cd40 ct40), sl40⟩)
    (c40 : PySem.W.codeIn K cd40 "_law_refused" = true)
    (k40 : PySem.W.keepIn K (.ref f40) = true)
    (a41 : PySem.W.nsIn K mainGlobals "_law_drawn_below" = some (some (.ref f41)))
    (l41 : K.lookup f41 = some ⟨oc41, od41, .func (PySem.W.fnOf "_law_drawn_below" "_law_drawn_below" (defArgs (topS 37)) (defBody (topS 37)) (defScope (topS 37)) .none kV41 dc41 pm41 an41 cd41 ct41), sl41⟩)
    (c41 : PySem.W.codeIn K cd41 "_law_drawn_below" = true)
    (k41 : PySem.W.keepIn K (.ref f41) = true)
    (a42 : PySem.W.nsIn K mainGlobals "_law_numbers_right" = some (some (.ref f42)))
    (l42 : K.lookup f42 = some ⟨oc42, od42, .func (PySem.W.fnOf "_law_numbers_right" "_law_numbers_right" (defArgs (topS 36)) (defBody (topS 36)) (defScope (topS 36)) .none kV42 dc42 pm42 an42 cd42 ct42), sl42⟩)
    (c42 : PySem.W.codeIn K cd42 "_law_numbers_right" = true)
    (k42 : PySem.W.keepIn K (.ref f42) = true)
    (a43 : PySem.W.nsIn K mainGlobals "_law_lift" = some (some (.ref f43)))
    (l43 : K.lookup f43 = some ⟨oc43, od43, .func (PySem.W.fnOf "_law_lift" "_law_lift" (defArgs (topS 38)) (defBody (topS 38)) (defScope (topS 38)) .none kV43 dc43 pm43 an43 cd43 ct43), sl43⟩)
    (c43 : PySem.W.codeIn K cd43 "_law_lift" = true)
    (k43 : PySem.W.keepIn K (.ref f43) = true)
    (a44 : PySem.W.nsIn K mainGlobals "_law_lifts_right" = some (some (.ref f44)))
    (l44 : K.lookup f44 = some ⟨oc44, od44, .func (PySem.W.fnOf "_law_lifts_right" "_law_lifts_right" (defArgs (topS 39)) (defBody (topS 39)) (defScope (topS 39)) .none kV44 dc44 pm44 an44 cd44 ct44), sl44⟩)
    (c44 : PySem.W.codeIn K cd44 "_law_lifts_right" = true)
    (k44 : PySem.W.keepIn K (.ref f44) = true)
    (a45 : PySem.W.nsIn K mainGlobals "_law_paper_right" = some (some (.ref f45)))
    (l45 : K.lookup f45 = some ⟨oc45, od45, .func (PySem.W.fnOf "_law_paper_right" "_law_paper_right" (defArgs (topS 40)) (defBody (topS 40)) (defScope (topS 40)) .none kV45 dc45 pm45 an45 cd45 ct45), sl45⟩)
    (c45 : PySem.W.codeIn K cd45 "_law_paper_right" = true)
    (k45 : PySem.W.keepIn K (.ref f45) = true)
    (a46 : PySem.W.nsIn K mainGlobals "_law_recipe_right" = some (some (.ref f46)))
    (l46 : K.lookup f46 = some ⟨oc46, od46, .func (PySem.W.fnOf "_law_recipe_right" "_law_recipe_right" (defArgs (topS 41)) (defBody (topS 41)) (defScope (topS 41)) .none kV46 dc46 pm46 an46 cd46 ct46), sl46⟩)
    (c46 : PySem.W.codeIn K cd46 "_law_recipe_right" = true)
    (k46 : PySem.W.keepIn K (.ref f46) = true)
    (a47 : PySem.W.nsIn K mainGlobals "law" = some (some (.ref f47)))
    (l47 : K.lookup f47 = some ⟨oc47, od47, .func (PySem.W.fnOf "law" "law" (defArgs (topS 42)) (defBody (topS 42)) (defScope (topS 42)) .none kV47 dc47 pm47 an47 cd47 ct47), sl47⟩)
    (c47 : PySem.W.codeIn K cd47 "law" = true)
    (k47 : PySem.W.keepIn K (.ref f47) = true)
    (z_abs : PySem.W.nsIn K mainGlobals "abs" = some none)
    (z_bool : PySem.W.nsIn K mainGlobals "bool" = some none)
    (z_divmod : PySem.W.nsIn K mainGlobals "divmod" = some none)
    (z_enumerate : PySem.W.nsIn K mainGlobals "enumerate" = some none)
    (z_int : PySem.W.nsIn K mainGlobals "int" = some none)
    (z_isinstance : PySem.W.nsIn K mainGlobals "isinstance" = some none)
    (z_len : PySem.W.nsIn K mainGlobals "len" = some none)
    (z_list : PySem.W.nsIn K mainGlobals "list" = some none)
    (z_max : PySem.W.nsIn K mainGlobals "max" = some none)
    (z_min : PySem.W.nsIn K mainGlobals "min" = some none)
    (z_range : PySem.W.nsIn K mainGlobals "range" = some none)
    (z_reversed : PySem.W.nsIn K mainGlobals "reversed" = some none)
    (z_sorted : PySem.W.nsIn K mainGlobals "sorted" = some none)
    (z_tuple : PySem.W.nsIn K mainGlobals "tuple" = some none)
    (z_zip : PySem.W.nsIn K mainGlobals "zip" = some none)
    {t_MOST : Tok}
    (v_MOST : PySem.W.nsIn K mainGlobals "MOST" = some (some (.int 60 t_MOST)))
    {t_MOST_MAKERS : Tok}
    (v_MOST_MAKERS : PySem.W.nsIn K mainGlobals "MOST_MAKERS" = some (some (.int 200 t_MOST_MAKERS)))
    {t_MOST_PLACES : Tok}
    (v_MOST_PLACES : PySem.W.nsIn K mainGlobals "MOST_PLACES" = some (some (.int 60 t_MOST_PLACES)))
    : ∃ fd : FuncData, (∀ (s : Shared) (v : Value), BindsTo s fd ⟨[v], []⟩ [("script", v)]) ∧ ∀ base : Heap, K.In base → base.Ns mainGlobals mg → FnOk l.prog w K mg base (L2.CX l.prog w) 8 fa fd ["script"] (fun vs H Q E => ∀ T : Br.Tab, Br.spM K T f_law vs H Q E) := by
  have e := hfa.symm.trans (PySem.W.mg_of X G a47)
  cases e
  let T : Br.Tab := fun c => match c with | 0 => some (C_Step, ["place", "lifts", "makers"]) | 1 => some (C_Chain, ["many", "lines", "steps"]) | 7 => some (C_Group, ["made", "many", "chain", "steps"]) | 4 => some (C_NoGroup, []) | 5 => some (C_NoNumber, []) | 3 => some (C_NoTurning, []) | 6 => some (C_NotIn, []) | 2 => some (C_TurnError, []) | _ => none
  have o_Step : Br.ObjK K T 0 C_Step ["place", "lifts", "makers"] := ⟨rfl, ⟨pg_Step, hd_Step, po_Step, sa_Step⟩, (by
    intro f hf
    simp only [List.mem_cons, List.not_mem_nil, or_false] at hf
    rcases hf with rfl | rfl | rfl
    · exact nf_Step_place
    · exact nf_Step_lifts
    · exact nf_Step_makers), by decide, by decide⟩
  have o_Chain : Br.ObjK K T 1 C_Chain ["many", "lines", "steps"] := ⟨rfl, ⟨pg_Chain, hd_Chain, po_Chain, sa_Chain⟩, (by
    intro f hf
    simp only [List.mem_cons, List.not_mem_nil, or_false] at hf
    rcases hf with rfl | rfl | rfl
    · exact nf_Chain_many
    · exact nf_Chain_lines
    · exact nf_Chain_steps), by decide, by decide⟩
  have o_Group : Br.ObjK K T 7 C_Group ["made", "many", "chain", "steps"] := ⟨rfl, ⟨pg_Group, hd_Group, po_Group, sa_Group⟩, (by
    intro f hf
    simp only [List.mem_cons, List.not_mem_nil, or_false] at hf
    rcases hf with rfl | rfl | rfl | rfl
    · exact nf_Group_made
    · exact nf_Group_many
    · exact nf_Group_chain
    · exact nf_Group_steps), by decide, by decide⟩
  have F0 := fun_mk (st := (topS 3)) l0 c0 k0
  have b0 := F0.binds (ps := ["thing"]) fun _ _ _ _ _ _ us hl => match us, hl with | [_], _ => rfl
  have F1 := fun_mk (st := (topS 4)) l1 c1 k1
  have b1 := F1.binds (ps := ["thing"]) fun _ _ _ _ _ _ us hl => match us, hl with | [_], _ => rfl
  have F2 := fun_mk (st := (topS 5)) l2 c2 k2
  have b2 := F2.binds (ps := ["many"]) fun _ _ _ _ _ _ us hl => match us, hl with | [_], _ => rfl
  have F3 := fun_mk (st := (topS 6)) l3 c3 k3
  have b3 := F3.binds (ps := ["one", "other"]) fun _ _ _ _ _ _ us hl => match us, hl with | [_, _], _ => rfl
  have F4 := fun_mk (st := (topS 7)) l4 c4 k4
  have b4 := F4.binds (ps := ["one"]) fun _ _ _ _ _ _ us hl => match us, hl with | [_], _ => rfl
  have F5 := fun_mk (st := (inClass (topS 9) 0)) l5 c5 k5
  have b5 := F5.binds (ps := ["self", "place", "many"]) fun _ _ _ _ _ _ us hl => match us, hl with | [_, _, _], _ => rfl
  have F6 := fun_mk (st := (inClass (topS 10) 0)) l6 c6 k6
  have b6 := F6.binds (ps := ["self", "many"]) fun _ _ _ _ _ _ us hl => match us, hl with | [_, _], _ => rfl
  have F7 := fun_mk (st := (inClass (topS 10) 1)) l7 c7 k7
  have b7 := F7.binds (ps := ["self", "line"]) fun _ _ _ _ _ _ us hl => match us, hl with | [_, _], _ => rfl
  have F8 := fun_mk (st := (inClass (topS 10) 2)) l8 c8 k8
  have b8 := F8.binds (ps := ["self", "made"]) fun _ _ _ _ _ _ us hl => match us, hl with | [_, _], _ => rfl
  have F9 := fun_mk (st := (inClass (topS 10) 3)) l9 c9 k9
  have b9 := F9.binds (ps := ["self", "one", "start"]) fun _ _ _ _ _ _ us hl => match us, hl with | [_, _, _], _ => rfl
  have F10 := fun_mk (st := (inClass (topS 10) 4)) l10 c10 k10
  have b10 := F10.binds (ps := ["self", "one"]) fun _ _ _ _ _ _ us hl => match us, hl with | [_, _], _ => rfl
  have F11 := fun_mk (st := (inClass (topS 10) 5)) l11 c11 k11
  have b11 := F11.binds (ps := ["self"]) fun _ _ _ _ _ _ us hl => match us, hl with | [_], _ => rfl
  have F12 := fun_mk (st := (inClass (topS 10) 6)) l12 c12 k12
  have b12 := F12.binds (ps := ["self", "one", "start"]) fun _ _ _ _ _ _ us hl => match us, hl with | [_, _, _], _ => rfl
  have F13 := fun_mk (st := (inClass (topS 10) 8)) l13 c13 k13
  have b13 := F13.binds (ps := ["self", "step", "one", "line"]) fun _ _ _ _ _ _ us hl => match us, hl with | [_, _, _, _], _ => rfl
  have F14 := fun_mk (st := (inClass (topS 10) 7)) l14 c14 k14
  have b14 := F14.binds (ps := ["self", "one", "line"]) fun _ _ _ _ _ _ us hl => match us, hl with | [_, _, _], _ => rfl
  have F15 := fun_mk (st := (topS 18)) l15 c15 k15
  have b15 := F15.binds (ps := ["line"]) fun _ _ _ _ _ _ us hl => match us, hl with | [_], _ => rfl
  have F16 := fun_mk (st := (topS 19)) l16 c16 k16
  have b16 := F16.binds (ps := ["lines"]) fun _ _ _ _ _ _ us hl => match us, hl with | [_], _ => rfl
  have F17 := fun_mk (st := (topS 23)) l17 c17 k17
  have b17 := F17.binds (ps := ["thing", "many"]) fun _ _ _ _ _ _ us hl => match us, hl with | [_, _], _ => rfl
  have F18 := fun_mk (st := (topS 24)) l18 c18 k18
  have b18 := F18.binds (ps := ["many", "makers"]) fun _ _ _ _ _ _ us hl => match us, hl with | [_, _], _ => rfl
  have F19 := fun_mk (st := (inClass (topS 25) 0)) l19 c19 k19
  have b19 := F19.binds (ps := ["self", "many", "makers"]) fun _ _ _ _ _ _ us hl => match us, hl with | [_, _, _], _ => rfl
  have F20 := fun_mk (st := (inClass (topS 25) 1)) l20 c20 k20
  have b20 := F20.binds (ps := ["self"]) fun _ _ _ _ _ _ us hl => match us, hl with | [_], _ => rfl
  have F21 := fun_mk (st := (inClass (topS 25) 2)) l21 c21 k21
  have b21 := F21.binds (ps := ["self"]) fun _ _ _ _ _ _ us hl => match us, hl with | [_], _ => rfl
  have F22 := fun_mk (st := (inClass (topS 25) 3)) l22 c22 k22
  have b22 := F22.binds (ps := ["self", "thing"]) fun _ _ _ _ _ _ us hl => match us, hl with | [_, _], _ => rfl
  have F23 := fun_mk (st := (inClass (topS 25) 4)) l23 c23 k23
  have b23 := F23.binds (ps := ["self"]) fun _ _ _ _ _ _ us hl => match us, hl with | [_], _ => rfl
  have F24 := fun_mk (st := (inClass (topS 25) 5)) l24 c24 k24
  have b24 := F24.binds (ps := ["self", "place"]) fun _ _ _ _ _ _ us hl => match us, hl with | [_, _], _ => rfl
  have F25 := fun_mk (st := (inClass (topS 25) 6)) l25 c25 k25
  have b25 := F25.binds (ps := ["self", "place", "to"]) fun _ _ _ _ _ _ us hl => match us, hl with | [_, _, _], _ => rfl
  have F26 := fun_mk (st := (inClass (topS 25) 7)) l26 c26 k26
  have b26 := F26.binds (ps := ["self"]) fun _ _ _ _ _ _ us hl => match us, hl with | [_], _ => rfl
  have F27 := fun_mk (st := (inClass (topS 25) 8)) l27 c27 k27
  have b27 := F27.binds (ps := ["self", "thing"]) fun _ _ _ _ _ _ us hl => match us, hl with | [_, _], _ => rfl
  have F28 := fun_mk (st := (inClass (topS 25) 9)) l28 c28 k28
  have b28 := F28.binds (ps := ["self", "k"]) fun _ _ _ _ _ _ us hl => match us, hl with | [_, _], _ => rfl
  have F29 := fun_mk (st := (inClass (topS 25) 10)) l29 c29 k29
  have b29 := F29.binds (ps := ["self", "thing"]) fun _ _ _ _ _ _ us hl => match us, hl with | [_, _], _ => rfl
  have F30 := fun_mk (st := (inClass (topS 25) 12)) l30 c30 k30
  have b30 := F30.binds (ps := ["self", "thing"]) fun _ _ _ _ _ _ us hl => match us, hl with | [_, _], _ => rfl
  have F31 := fun_mk (st := (inClass (topS 25) 13)) l31 c31 k31
  have b31 := F31.binds (ps := ["self"]) fun _ _ _ _ _ _ us hl => match us, hl with | [_], _ => rfl
  have F32 := fun_mk (st := (topS 27)) l32 c32 k32
  have b32 := F32.binds (ps := ["script", "k"]) fun _ _ _ _ _ _ us hl => match us, hl with | [_, _], _ => rfl
  have F33 := fun_mk (st := (topS 28)) l33 c33 k33
  have b33 := F33.binds (ps := ["hand", "many"]) fun _ _ _ _ _ _ us hl => match us, hl with | [_, _], _ => rfl
  have F34 := fun_mk (st := (topS 29)) l34 c34 k34
  have b34 := F34.binds (ps := ["hand", "many"]) fun _ _ _ _ _ _ us hl => match us, hl with | [_, _], _ => rfl
  have F35 := fun_mk (st := (topS 30)) l35 c35 k35
  have b35 := F35.binds (ps := ["one", "other"]) fun _ _ _ _ _ _ us hl => match us, hl with | [_, _], _ => rfl
  have F36 := fun_mk (st := (topS 31)) l36 c36 k36
  have b36 := F36.binds (ps := ["one"]) fun _ _ _ _ _ _ us hl => match us, hl with | [_], _ => rfl
  have F37 := fun_mk (st := (topS 32)) l37 c37 k37
  have b37 := F37.binds (ps := ["lines", "makers", "many"]) fun _ _ _ _ _ _ us hl => match us, hl with | [_, _, _], _ => rfl
  have F38 := fun_mk (st := (topS 33)) l38 c38 k38
  have b38 := F38.binds (ps := ["many", "window", "values"]) fun _ _ _ _ _ _ us hl => match us, hl with | [_, _, _], _ => rfl
  have F39 := fun_mk (st := (topS 34)) l39 c39 k39
  have b39 := F39.binds (ps := ["window", "number"]) fun _ _ _ _ _ _ us hl => match us, hl with | [_, _], _ => rfl
  have F40 := fun_mk (st := (topS 35)) l40 c40 k40
  have b40 := F40.binds (ps := ["group", "way", "thing"]) fun _ _ _ _ _ _ us hl => match us, hl with | [_, _, _], _ => rfl
  have F41 := fun_mk (st := (topS 37)) l41 c41 k41
  have b41 := F41.binds (ps := ["hand", "whole"]) fun _ _ _ _ _ _ us hl => match us, hl with | [_, _], _ => rfl
  have F42 := fun_mk (st := (topS 36)) l42 c42 k42
  have b42 := F42.binds (ps := ["hand", "group", "window", "whole"]) fun _ _ _ _ _ _ us hl => match us, hl with | [_, _, _, _], _ => rfl
  have F43 := fun_mk (st := (topS 38)) l43 c43 k43
  have b43 := F43.binds (ps := ["group", "window", "i", "j"]) fun _ _ _ _ _ _ us hl => match us, hl with | [_, _, _, _], _ => rfl
  have F44 := fun_mk (st := (topS 39)) l44 c44 k44
  have b44 := F44.binds (ps := ["hand", "group", "window"]) fun _ _ _ _ _ _ us hl => match us, hl with | [_, _, _], _ => rfl
  have F45 := fun_mk (st := (topS 40)) l45 c45 k45
  have b45 := F45.binds (ps := ["group", "window", "makers"]) fun _ _ _ _ _ _ us hl => match us, hl with | [_, _, _], _ => rfl
  have F46 := fun_mk (st := (topS 41)) l46 c46 k46
  have b46 := F46.binds (ps := ["hand", "group", "window", "makers", "whole"]) fun _ _ _ _ _ _ us hl => match us, hl with | [_, _, _, _, _], _ => rfl
  have F47 := fun_mk (st := (topS 42)) l47 c47 k47
  have b47 := F47.binds (ps := ["script"]) fun _ _ _ _ _ _ us hl => match us, hl with | [_], _ => rfl
  exact ⟨_, fun s v => .of_eq rfl, fun base _ _ => (ok_law (T := T) { m_abs := PySem.W.mg_none_of X G z_abs, m_bool := PySem.W.mg_none_of X G z_bool, m_divmod := PySem.W.mg_none_of X G z_divmod, m_enumerate := PySem.W.mg_none_of X G z_enumerate, m_int := PySem.W.mg_none_of X G z_int, m_isinstance := PySem.W.mg_none_of X G z_isinstance, m_len := PySem.W.mg_none_of X G z_len, m_list := PySem.W.mg_none_of X G z_list, m_max := PySem.W.mg_none_of X G z_max, m_min := PySem.W.mg_none_of X G z_min, m_range := PySem.W.mg_none_of X G z_range, m_reversed := PySem.W.mg_none_of X G z_reversed, m_sorted := PySem.W.mg_none_of X G z_sorted, m_tuple := PySem.W.mg_none_of X G z_tuple, m_zip := PySem.W.mg_none_of X G z_zip, t_MOST := t_MOST, c_MOST := PySem.W.mg_of X G v_MOST, t_MOST_MAKERS := t_MOST_MAKERS, c_MOST_MAKERS := PySem.W.mg_of X G v_MOST_MAKERS, t_MOST_PLACES := t_MOST_PLACES, c_MOST_PLACES := PySem.W.mg_of X G v_MOST_PLACES, C_Step := C_Step, gC_Step := PySem.W.mg_of X G n_Step, oC_Step := o_Step, C_Chain := C_Chain, gC_Chain := PySem.W.mg_of X G n_Chain, oC_Chain := o_Chain, C_Group := C_Group, gC_Group := PySem.W.mg_of X G n_Group, oC_Group := o_Group, C_NoGroup := C_NoGroup, gX_NoGroup := PySem.W.mg_of X G n_NoGroup, tX_NoGroup := rfl, xX_NoGroup := x_NoGroup, kX_NoGroup := k_NoGroup, bX_NoGroup := b_NoGroup, yX_NoGroup := y_NoGroup, C_NoNumber := C_NoNumber, gX_NoNumber := PySem.W.mg_of X G n_NoNumber, tX_NoNumber := rfl, xX_NoNumber := x_NoNumber, kX_NoNumber := k_NoNumber, bX_NoNumber := b_NoNumber, yX_NoNumber := y_NoNumber, C_NoTurning := C_NoTurning, gX_NoTurning := PySem.W.mg_of X G n_NoTurning, tX_NoTurning := rfl, xX_NoTurning := x_NoTurning, kX_NoTurning := k_NoTurning, bX_NoTurning := b_NoTurning, yX_NoTurning := y_NoTurning, C_NotIn := C_NotIn, gX_NotIn := PySem.W.mg_of X G n_NotIn, tX_NotIn := rfl, xX_NotIn := x_NotIn, kX_NotIn := k_NotIn, bX_NotIn := b_NotIn, yX_NotIn := y_NotIn, C_TurnError := C_TurnError, gX_TurnError := PySem.W.mg_of X G n_TurnError, tX_TurnError := rfl, xX_TurnError := x_TurnError, kX_TurnError := k_TurnError, bX_TurnError := b_TurnError, yX_TurnError := y_TurnError, ex_NoNumber := (.cons (C := C_TurnError) (nm := []) rfl (Br.exm_by b_NoNumber i_NoNumber y_NoNumber s_TurnError_NoNumber) (.cons (C := C_NoTurning) (nm := []) rfl (Br.exm_by b_NoNumber i_NoNumber y_NoNumber s_NoTurning_NoNumber) (.cons (C := C_NoGroup) (nm := []) rfl (Br.exm_by b_NoNumber i_NoNumber y_NoNumber s_NoGroup_NoNumber) (.cons (C := C_NoNumber) (nm := []) rfl (Br.exm_by b_NoNumber i_NoNumber y_NoNumber s_NoNumber_NoNumber) (.cons (C := C_NotIn) (nm := []) rfl (Br.exm_by b_NoNumber i_NoNumber y_NoNumber s_NotIn_NoNumber) .nil))))), ex_NotIn := (.cons (C := C_TurnError) (nm := []) rfl (Br.exm_by b_NotIn i_NotIn y_NotIn s_TurnError_NotIn) (.cons (C := C_NoTurning) (nm := []) rfl (Br.exm_by b_NotIn i_NotIn y_NotIn s_NoTurning_NotIn) (.cons (C := C_NoGroup) (nm := []) rfl (Br.exm_by b_NotIn i_NotIn y_NotIn s_NoGroup_NotIn) (.cons (C := C_NoNumber) (nm := []) rfl (Br.exm_by b_NotIn i_NotIn y_NotIn s_NoNumber_NotIn) (.cons (C := C_NotIn) (nm := []) rfl (Br.exm_by b_NotIn i_NotIn y_NotIn s_NotIn_NotIn) .nil))))), ex_TurnError := (.cons (C := C_TurnError) (nm := []) rfl (Br.exm_by b_TurnError i_TurnError y_TurnError s_TurnError_TurnError) (.cons (C := C_NoTurning) (nm := []) rfl (Br.exm_by b_TurnError i_TurnError y_TurnError s_NoTurning_TurnError) (.cons (C := C_NoGroup) (nm := []) rfl (Br.exm_by b_TurnError i_TurnError y_TurnError s_NoGroup_TurnError) (.cons (C := C_NoNumber) (nm := []) rfl (Br.exm_by b_TurnError i_TurnError y_TurnError s_NoNumber_TurnError) (.cons (C := C_NotIn) (nm := []) rfl (Br.exm_by b_TurnError i_TurnError y_TurnError s_NotIn_TurnError) .nil))))), a_is_whole := _, fd_is_whole := _, F_is_whole := F0, b_is_whole := b0, g_is_whole := PySem.W.mg_of X G a0, a_is_turning := _, fd_is_turning := _, F_is_turning := F1, b_is_turning := b1, g_is_turning := PySem.W.mg_of X G a1, a_still := _, fd_still := _, F_still := F2, b_still := b2, g_still := PySem.W.mg_of X G a2, a_behind := _, fd_behind := _, F_behind := F3, b_behind := b3, g_behind := PySem.W.mg_of X G a3, a_back := _, fd_back := _, F_back := F4, b_back := b4, g_back := PySem.W.mg_of X G a4, a_Step___init__ := _, fd_Step___init__ := _, F_Step___init__ := F5, b_Step___init__ := b5, mk_Step := ⟨mk_Step, a5, i5, kc_Step⟩, a_Chain___init__ := _, fd_Chain___init__ := _, F_Chain___init__ := F6, b_Chain___init__ := b6, mk_Chain := ⟨mk_Chain, a6, i6, kc_Chain⟩, a_Chain_noted := _, fd_Chain_noted := _, F_Chain_noted := F7, b_Chain_noted := b7, mm_Chain_noted := ⟨a7, i7, k7⟩, a_Chain_line_of := _, fd_Chain_line_of := _, F_Chain_line_of := F8, b_Chain_line_of := b8, mm_Chain_line_of := ⟨a8, i8, k8⟩, a_Chain_rest := _, fd_Chain_rest := _, F_Chain_rest := F9, b_Chain_rest := b9, mm_Chain_rest := ⟨a9, i9, k9⟩, a_Chain_has := _, fd_Chain_has := _, F_Chain_has := F10, b_Chain_has := b10, mm_Chain_has := ⟨a10, i10, k10⟩, a_Chain_size := _, fd_Chain_size := _, F_Chain_size := F11, b_Chain_size := b11, mm_Chain_size := ⟨a11, i11, k11⟩, a_Chain_least := _, fd_Chain_least := _, F_Chain_least := F12, b_Chain_least := b12, mm_Chain_least := ⟨a12, i12, k12⟩, a_Chain_grown := _, fd_Chain_grown := _, F_Chain_grown := F13, b_Chain_grown := b13, mm_Chain_grown := ⟨a13, i13, k13⟩, a_Chain_add := _, fd_Chain_add := _, F_Chain_add := F14, b_Chain_add := b14, mm_Chain_add := ⟨a14, i14, k14⟩, a_lines_named := _, fd_lines_named := _, F_lines_named := F15, b_lines_named := b15, g_lines_named := PySem.W.mg_of X G a15, a_trimmed := _, fd_trimmed := _, F_trimmed := F16, b_trimmed := b16, g_trimmed := PySem.W.mg_of X G a16, a_is_of := _, fd_is_of := _, F_is_of := F17, b_is_of := b17, g_is_of := PySem.W.mg_of X G a17, a_looked_makers := _, fd_looked_makers := _, F_looked_makers := F18, b_looked_makers := b18, g_looked_makers := PySem.W.mg_of X G a18, a_Group___init__ := _, fd_Group___init__ := _, F_Group___init__ := F19, b_Group___init__ := b19, mk_Group := ⟨mk_Group, a19, i19, kc_Group⟩, a_Group_told := _, fd_Group_told := _, F_Group_told := F20, b_Group_told := b20, mm_Group_told := ⟨a20, i20, k20⟩, a_Group_size := _, fd_Group_size := _, F_Group_size := F21, b_Group_size := b21, mm_Group_size := ⟨a21, i21, k21⟩, a_Group_has := _, fd_Group_has := _, F_Group_has := F22, b_Group_has := b22, mm_Group_has := ⟨a22, i22, k22⟩, a_Group_base := _, fd_Group_base := _, F_Group_base := F23, b_Group_base := b23, mm_Group_base := ⟨a23, i23, k23⟩, a_Group_ring_at := _, fd_Group_ring_at := _, F_Group_ring_at := F24, b_Group_ring_at := b24, mm_Group_ring_at := ⟨a24, i24, k24⟩, a_Group_lift := _, fd_Group_lift := _, F_Group_lift := F25, b_Group_lift := b25, mm_Group_lift := ⟨a25, i25, k25⟩, a_Group_ground := _, fd_Group_ground := _, F_Group_ground := F26, b_Group_ground := b26, mm_Group_ground := ⟨a26, i26, k26⟩, a_Group_least := _, fd_Group_least := _, F_Group_least := F27, b_Group_least := b27, mm_Group_least := ⟨a27, i27, k27⟩, a_Group_nth := _, fd_Group_nth := _, F_Group_nth := F28, b_Group_nth := b28, mm_Group_nth := ⟨a28, i28, k28⟩, a_Group_place_of := _, fd_Group_place_of := _, F_Group_place_of := F29, b_Group_place_of := b29, mm_Group_place_of := ⟨a29, i29, k29⟩, a_Group_recipe := _, fd_Group_recipe := _, F_Group_recipe := F30, b_Group_recipe := b30, mm_Group_recipe := ⟨a30, i30, k30⟩, a_Group_paper := _, fd_Group_paper := _, F_Group_paper := F31, b_Group_paper := b31, mm_Group_paper := ⟨a31, i31, k31⟩, a__law_hand := _, fd__law_hand := _, F__law_hand := F32, b__law_hand := b32, g__law_hand := PySem.W.mg_of X G a32, a__law_take := _, fd__law_take := _, F__law_take := F33, b__law_take := b33, g__law_take := PySem.W.mg_of X G a33, a__law_turning := _, fd__law_turning := _, F__law_turning := F34, b__law_turning := b34, g__law_turning := PySem.W.mg_of X G a34, a__law_behind := _, fd__law_behind := _, F__law_behind := F35, b__law_behind := b35, g__law_behind := PySem.W.mg_of X G a35, a__law_back := _, fd__law_back := _, F__law_back := F36, b__law_back := b36, g__law_back := PySem.W.mg_of X G a36, a__law_worked := _, fd__law_worked := _, F__law_worked := F37, b__law_worked := b37, g__law_worked := PySem.W.mg_of X G a37, a__law_made := _, fd__law_made := _, F__law_made := F38, b__law_made := b38, g__law_made := PySem.W.mg_of X G a38, a__law_by_number := _, fd__law_by_number := _, F__law_by_number := F39, b__law_by_number := b39, g__law_by_number := PySem.W.mg_of X G a39, a__law_refused := _, fd__law_refused := _, F__law_refused := F40, b__law_refused := b40, g__law_refused := PySem.W.mg_of X G a40, a__law_drawn_below := _, fd__law_drawn_below := _, F__law_drawn_below := F41, b__law_drawn_below := b41, g__law_drawn_below := PySem.W.mg_of X G a41, a__law_numbers_right := _, fd__law_numbers_right := _, F__law_numbers_right := F42, b__law_numbers_right := b42, g__law_numbers_right := PySem.W.mg_of X G a42, a__law_lift := _, fd__law_lift := _, F__law_lift := F43, b__law_lift := b43, g__law_lift := PySem.W.mg_of X G a43, a__law_lifts_right := _, fd__law_lifts_right := _, F__law_lifts_right := F44, b__law_lifts_right := b44, g__law_lifts_right := PySem.W.mg_of X G a44, a__law_paper_right := _, fd__law_paper_right := _, F__law_paper_right := F45, b__law_paper_right := b45, g__law_paper_right := PySem.W.mg_of X G a45, a__law_recipe_right := _, fd__law_recipe_right := _, F__law_recipe_right := F46, b__law_recipe_right := b46, g__law_recipe_right := PySem.W.mg_of X G a46, a_law := _, fd_law := _, F_law := F47, b_law := b47, g_law := PySem.W.mg_of X G a47 }).imp fun _ _ _ _ h => h T⟩
end k91
open PySem PySem.W PyProof.Rows
set_option maxHeartbeats 0 in
theorem PySem.Challenge.cw_turnbase_k91_windows_of_any_size_holds : PySem.Challenge.rw_turnbase_k91_windows_of_any_size.Holds := by
  w_on; o_law; k_head; (case hw => w_witness2)
  k_fill
  refine L2.walk_of (l := PySem.Challenge.rw_turnbase_k91_windows_of_any_size) (n := 63) (k := 8) (x := "script") (CX := fun w => L2.CX PySem.Challenge.rw_turnbase_k91_windows_of_any_size.prog w) (sp := fun w vs H Q E => ∀ T : Br.Tab, Br.spM _ T k91.f_law vs H Q E) rfl (by decide) rfl ⟨rfl, by decide, by decide⟩ (fun w h Y => PySem.W.kIn_of Y) ?F (fun _ _ a ns hl _ hS => Br.sp_any hS (k91.law_ok ns hl)) (fun _ _ _ _ _ h => ?_)
  case F =>
    intro w mg fa h KX G hmg
    refine' k91.all_mk KX G hmg ?n_Step ?pg_Step ?hd_Step ?po_Step ?sa_Step ?mk_Step ?kc_Step ?nf_Step_place ?nf_Step_lifts ?nf_Step_makers ?n_Chain ?pg_Chain ?hd_Chain ?po_Chain ?sa_Chain ?mk_Chain ?kc_Chain ?nf_Chain_many ?nf_Chain_lines ?nf_Chain_steps ?n_Group ?pg_Group ?hd_Group ?po_Group ?sa_Group ?mk_Group ?kc_Group ?nf_Group_made ?nf_Group_many ?nf_Group_chain ?nf_Group_steps ?n_NoGroup ?x_NoGroup ?k_NoGroup ?b_NoGroup ?y_NoGroup ?n_NoNumber ?x_NoNumber ?k_NoNumber ?b_NoNumber ?y_NoNumber ?n_NoTurning ?x_NoTurning ?k_NoTurning ?b_NoTurning ?y_NoTurning ?n_NotIn ?x_NotIn ?k_NotIn ?b_NotIn ?y_NotIn ?n_TurnError ?x_TurnError ?k_TurnError ?b_TurnError ?y_TurnError ?i_NoNumber ?s_TurnError_NoNumber ?s_NoTurning_NoNumber ?s_NoGroup_NoNumber ?s_NoNumber_NoNumber ?s_NotIn_NoNumber ?i_NotIn ?s_TurnError_NotIn ?s_NoTurning_NotIn ?s_NoGroup_NotIn ?s_NoNumber_NotIn ?s_NotIn_NotIn ?i_TurnError ?s_TurnError_TurnError ?s_NoTurning_TurnError ?s_NoGroup_TurnError ?s_NoNumber_TurnError ?s_NotIn_TurnError ?a0 ?l0 ?c0 ?k0 ?a1 ?l1 ?c1 ?k1 ?a2 ?l2 ?c2 ?k2 ?a3 ?l3 ?c3 ?k3 ?a4 ?l4 ?c4 ?k4 ?a5 ?i5 ?l5 ?c5 ?k5 ?a6 ?i6 ?l6 ?c6 ?k6 ?a7 ?i7 ?l7 ?c7 ?k7 ?a8 ?i8 ?l8 ?c8 ?k8 ?a9 ?i9 ?l9 ?c9 ?k9 ?a10 ?i10 ?l10 ?c10 ?k10 ?a11 ?i11 ?l11 ?c11 ?k11 ?a12 ?i12 ?l12 ?c12 ?k12 ?a13 ?i13 ?l13 ?c13 ?k13 ?a14 ?i14 ?l14 ?c14 ?k14 ?a15 ?l15 ?c15 ?k15 ?a16 ?l16 ?c16 ?k16 ?a17 ?l17 ?c17 ?k17 ?a18 ?l18 ?c18 ?k18 ?a19 ?i19 ?l19 ?c19 ?k19 ?a20 ?i20 ?l20 ?c20 ?k20 ?a21 ?i21 ?l21 ?c21 ?k21 ?a22 ?i22 ?l22 ?c22 ?k22 ?a23 ?i23 ?l23 ?c23 ?k23 ?a24 ?i24 ?l24 ?c24 ?k24 ?a25 ?i25 ?l25 ?c25 ?k25 ?a26 ?i26 ?l26 ?c26 ?k26 ?a27 ?i27 ?l27 ?c27 ?k27 ?a28 ?i28 ?l28 ?c28 ?k28 ?a29 ?i29 ?l29 ?c29 ?k29 ?a30 ?i30 ?l30 ?c30 ?k30 ?a31 ?i31 ?l31 ?c31 ?k31 ?a32 ?l32 ?c32 ?k32 ?a33 ?l33 ?c33 ?k33 ?a34 ?l34 ?c34 ?k34 ?a35 ?l35 ?c35 ?k35 ?a36 ?l36 ?c36 ?k36 ?a37 ?l37 ?c37 ?k37 ?a38 ?l38 ?c38 ?k38 ?a39 ?l39 ?c39 ?k39 ?a40 ?l40 ?c40 ?k40 ?a41 ?l41 ?c41 ?k41 ?a42 ?l42 ?c42 ?k42 ?a43 ?l43 ?c43 ?k43 ?a44 ?l44 ?c44 ?k44 ?a45 ?l45 ?c45 ?k45 ?a46 ?l46 ?c46 ?k46 ?a47 ?l47 ?c47 ?k47 ?z_abs ?z_bool ?z_divmod ?z_enumerate ?z_int ?z_isinstance ?z_len ?z_list ?z_max ?z_min ?z_range ?z_reversed ?z_sorted ?z_tuple ?z_zip ?v_MOST ?v_MOST_MAKERS ?v_MOST_PLACES
    (case n_Step => k_is)
    (case pg_Step => k_is)
    (case hd_Step => k_is)
    (case po_Step => k_is)
    (case sa_Step => k_is)
    (case mk_Step => k_is)
    (case kc_Step => k_is)
    (case nf_Step_place => k_is)
    (case nf_Step_lifts => k_is)
    (case nf_Step_makers => k_is)
    (case n_Chain => k_is)
    (case pg_Chain => k_is)
    (case hd_Chain => k_is)
    (case po_Chain => k_is)
    (case sa_Chain => k_is)
    (case mk_Chain => k_is)
    (case kc_Chain => k_is)
    (case nf_Chain_many => k_is)
    (case nf_Chain_lines => k_is)
    (case nf_Chain_steps => k_is)
    (case n_Group => k_is)
    (case pg_Group => k_is)
    (case hd_Group => k_is)
    (case po_Group => k_is)
    (case sa_Group => k_is)
    (case mk_Group => k_is)
    (case kc_Group => k_is)
    (case nf_Group_made => k_is)
    (case nf_Group_many => k_is)
    (case nf_Group_chain => k_is)
    (case nf_Group_steps => k_is)
    (case n_NoGroup => k_is)
    (case x_NoGroup => k_exc)
    (case k_NoGroup => k_is)
    (case b_NoGroup => k_is)
    (case y_NoGroup => k_is)
    (case n_NoNumber => k_is)
    (case x_NoNumber => k_exc)
    (case k_NoNumber => k_is)
    (case b_NoNumber => k_is)
    (case y_NoNumber => k_is)
    (case n_NoTurning => k_is)
    (case x_NoTurning => k_exc)
    (case k_NoTurning => k_is)
    (case b_NoTurning => k_is)
    (case y_NoTurning => k_is)
    (case n_NotIn => k_is)
    (case x_NotIn => k_exc)
    (case k_NotIn => k_is)
    (case b_NotIn => k_is)
    (case y_NotIn => k_is)
    (case n_TurnError => k_is)
    (case x_TurnError => k_exc)
    (case k_TurnError => k_is)
    (case b_TurnError => k_is)
    (case y_TurnError => k_is)
    (case i_NoNumber => k_is)
    (case s_TurnError_NoNumber => first | rfl | k_is)
    (case s_NoTurning_NoNumber => first | rfl | k_is)
    (case s_NoGroup_NoNumber => first | rfl | k_is)
    (case s_NoNumber_NoNumber => first | rfl | k_is)
    (case s_NotIn_NoNumber => first | rfl | k_is)
    (case i_NotIn => k_is)
    (case s_TurnError_NotIn => first | rfl | k_is)
    (case s_NoTurning_NotIn => first | rfl | k_is)
    (case s_NoGroup_NotIn => first | rfl | k_is)
    (case s_NoNumber_NotIn => first | rfl | k_is)
    (case s_NotIn_NotIn => first | rfl | k_is)
    (case i_TurnError => k_is)
    (case s_TurnError_TurnError => first | rfl | k_is)
    (case s_NoTurning_TurnError => first | rfl | k_is)
    (case s_NoGroup_TurnError => first | rfl | k_is)
    (case s_NoNumber_TurnError => first | rfl | k_is)
    (case s_NotIn_TurnError => first | rfl | k_is)
    (case a0 => k_is)
    (case l0 => k_is)
    (case c0 => k_is)
    (case k0 => k_is)
    (case a1 => k_is)
    (case l1 => k_is)
    (case c1 => k_is)
    (case k1 => k_is)
    (case a2 => k_is)
    (case l2 => k_is)
    (case c2 => k_is)
    (case k2 => k_is)
    (case a3 => k_is)
    (case l3 => k_is)
    (case c3 => k_is)
    (case k3 => k_is)
    (case a4 => k_is)
    (case l4 => k_is)
    (case c4 => k_is)
    (case k4 => k_is)
    (case a5 => k_is)
    (case i5 => k_is)
    (case l5 => k_is)
    (case c5 => k_is)
    (case k5 => k_is)
    (case a6 => k_is)
    (case i6 => k_is)
    (case l6 => k_is)
    (case c6 => k_is)
    (case k6 => k_is)
    (case a7 => k_is)
    (case i7 => k_is)
    (case l7 => k_is)
    (case c7 => k_is)
    (case k7 => k_is)
    (case a8 => k_is)
    (case i8 => k_is)
    (case l8 => k_is)
    (case c8 => k_is)
    (case k8 => k_is)
    (case a9 => k_is)
    (case i9 => k_is)
    (case l9 => k_is)
    (case c9 => k_is)
    (case k9 => k_is)
    (case a10 => k_is)
    (case i10 => k_is)
    (case l10 => k_is)
    (case c10 => k_is)
    (case k10 => k_is)
    (case a11 => k_is)
    (case i11 => k_is)
    (case l11 => k_is)
    (case c11 => k_is)
    (case k11 => k_is)
    (case a12 => k_is)
    (case i12 => k_is)
    (case l12 => k_is)
    (case c12 => k_is)
    (case k12 => k_is)
    (case a13 => k_is)
    (case i13 => k_is)
    (case l13 => k_is)
    (case c13 => k_is)
    (case k13 => k_is)
    (case a14 => k_is)
    (case i14 => k_is)
    (case l14 => k_is)
    (case c14 => k_is)
    (case k14 => k_is)
    (case a15 => k_is)
    (case l15 => k_is)
    (case c15 => k_is)
    (case k15 => k_is)
    (case a16 => k_is)
    (case l16 => k_is)
    (case c16 => k_is)
    (case k16 => k_is)
    (case a17 => k_is)
    (case l17 => k_is)
    (case c17 => k_is)
    (case k17 => k_is)
    (case a18 => k_is)
    (case l18 => k_is)
    (case c18 => k_is)
    (case k18 => k_is)
    (case a19 => k_is)
    (case i19 => k_is)
    (case l19 => k_is)
    (case c19 => k_is)
    (case k19 => k_is)
    (case a20 => k_is)
    (case i20 => k_is)
    (case l20 => k_is)
    (case c20 => k_is)
    (case k20 => k_is)
    (case a21 => k_is)
    (case i21 => k_is)
    (case l21 => k_is)
    (case c21 => k_is)
    (case k21 => k_is)
    (case a22 => k_is)
    (case i22 => k_is)
    (case l22 => k_is)
    (case c22 => k_is)
    (case k22 => k_is)
    (case a23 => k_is)
    (case i23 => k_is)
    (case l23 => k_is)
    (case c23 => k_is)
    (case k23 => k_is)
    (case a24 => k_is)
    (case i24 => k_is)
    (case l24 => k_is)
    (case c24 => k_is)
    (case k24 => k_is)
    (case a25 => k_is)
    (case i25 => k_is)
    (case l25 => k_is)
    (case c25 => k_is)
    (case k25 => k_is)
    (case a26 => k_is)
    (case i26 => k_is)
    (case l26 => k_is)
    (case c26 => k_is)
    (case k26 => k_is)
    (case a27 => k_is)
    (case i27 => k_is)
    (case l27 => k_is)
    (case c27 => k_is)
    (case k27 => k_is)
    (case a28 => k_is)
    (case i28 => k_is)
    (case l28 => k_is)
    (case c28 => k_is)
    (case k28 => k_is)
    (case a29 => k_is)
    (case i29 => k_is)
    (case l29 => k_is)
    (case c29 => k_is)
    (case k29 => k_is)
    (case a30 => k_is)
    (case i30 => k_is)
    (case l30 => k_is)
    (case c30 => k_is)
    (case k30 => k_is)
    (case a31 => k_is)
    (case i31 => k_is)
    (case l31 => k_is)
    (case c31 => k_is)
    (case k31 => k_is)
    (case a32 => k_is)
    (case l32 => k_is)
    (case c32 => k_is)
    (case k32 => k_is)
    (case a33 => k_is)
    (case l33 => k_is)
    (case c33 => k_is)
    (case k33 => k_is)
    (case a34 => k_is)
    (case l34 => k_is)
    (case c34 => k_is)
    (case k34 => k_is)
    (case a35 => k_is)
    (case l35 => k_is)
    (case c35 => k_is)
    (case k35 => k_is)
    (case a36 => k_is)
    (case l36 => k_is)
    (case c36 => k_is)
    (case k36 => k_is)
    (case a37 => k_is)
    (case l37 => k_is)
    (case c37 => k_is)
    (case k37 => k_is)
    (case a38 => k_is)
    (case l38 => k_is)
    (case c38 => k_is)
    (case k38 => k_is)
    (case a39 => k_is)
    (case l39 => k_is)
    (case c39 => k_is)
    (case k39 => k_is)
    (case a40 => k_is)
    (case l40 => k_is)
    (case c40 => k_is)
    (case k40 => k_is)
    (case a41 => k_is)
    (case l41 => k_is)
    (case c41 => k_is)
    (case k41 => k_is)
    (case a42 => k_is)
    (case l42 => k_is)
    (case c42 => k_is)
    (case k42 => k_is)
    (case a43 => k_is)
    (case l43 => k_is)
    (case c43 => k_is)
    (case k43 => k_is)
    (case a44 => k_is)
    (case l44 => k_is)
    (case c44 => k_is)
    (case k44 => k_is)
    (case a45 => k_is)
    (case l45 => k_is)
    (case c45 => k_is)
    (case k45 => k_is)
    (case a46 => k_is)
    (case l46 => k_is)
    (case c46 => k_is)
    (case k46 => k_is)
    (case a47 => k_is)
    (case l47 => k_is)
    (case c47 => k_is)
    (case k47 => k_is)
    (case z_abs => k_is)
    (case z_bool => k_is)
    (case z_divmod => k_is)
    (case z_enumerate => k_is)
    (case z_int => k_is)
    (case z_isinstance => k_is)
    (case z_len => k_is)
    (case z_list => k_is)
    (case z_max => k_is)
    (case z_min => k_is)
    (case z_range => k_is)
    (case z_reversed => k_is)
    (case z_sorted => k_is)
    (case z_tuple => k_is)
    (case z_zip => k_is)
    (case v_MOST => k_is)
    (case v_MOST_MAKERS => k_is)
    (case v_MOST_PLACES => k_is)
  obtain ⟨_, _, _, _, _, _, _, _, _, _, _, _, h⟩ := h
  exact h
