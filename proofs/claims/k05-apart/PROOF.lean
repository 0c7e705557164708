import PyProof.Rows.All
import Wide.All
import OpenK.AllK
import Wide.FinOn
import PySem.Str
import PySem.Builtin.Int.W1All
import HandS.ForMost
import HandS.Exc
import HandS.TryOnly
import HandS.ExcOwn
import HandS.WordsExc
import HandS.IsInst
import HandS.Style
import HandS.Zip
import HandS.TupLen
import HandS.TupAny
import HandS.Deep
import HandS.More
import HandS.DictComp
import HandS.SetBool
import HandS.SetKeys
import KE.KDictKeyed
import KE.KeyNested
import KE.GoesMore
import KE.GoesZip
import KE.GoesEnum
import HandS.Defaults
import KE.KUnpackStar
import HandS.ExcValue
import HandS.Set
import HandS.SetFor
import PySem.Challenge.RW_beliefplan_k05_whole_apart
import KE.KStateDown
import HandS.Ends
import HandS.Head0
import HandS.Head1
import HandS.Head2
import HandS.HeadEnd
import HandS.HeadHook1
import HandS.HeadHook2
import HandS.HeadHook3
import HandS.HeadHook4
set_option linter.all false
set_option autoImplicit false
namespace BP
open PySem
inductive D where
  | non | bl (b : Bool) | int (i : Int) | str (s : Str) | tup (ds : List D) | lst (ds : List D) | dct (kvs : List (D × D)) | dtt (kvs : List (D × D)) | obj (c : Nat) (fs : List (Str × D))
  deriving Inhabited
mutual
def D.beq : D → D → Bool
  | .non, b => match b with | .non => true | _ => false
  | .bl a, b => match b with | .bl b => decide (a = b) | _ => false
  | .int a, b => match b with | .int b => decide (a = b) | _ => false
  | .str a, b => match b with | .str b => decide (a = b) | _ => false
  | .tup a, b => match b with | .tup b => D.beqs a b | _ => false
  | .lst a, b => match b with | .lst b => D.beqs a b | _ => false
  | .dct a, b => match b with | .dct b => D.beqk a b | _ => false
  | .dtt a, b => match b with | .dtt b => D.beqk a b | _ => false
  | .obj c a, b => match b with | .obj d b => decide (c = d) && D.beqf a b | _ => false
def D.beqs : List D → List D → Bool
  | [], b => match b with | [] => true | _ => false
  | a :: r, b => match b with | b :: t => D.beq a b && D.beqs r t | _ => false
def D.beqk : List (D × D) → List (D × D) → Bool
  | [], b => match b with | [] => true | _ => false
  | (a, x) :: r, b => match b with | (b, y) :: t => D.beq a b && D.beq x y && D.beqk r t | _ => false
def D.beqf : List (Str × D) → List (Str × D) → Bool
  | [], b => match b with | [] => true | _ => false
  | (a, x) :: r, b => match b with | (b, y) :: t => decide (a = b) && D.beq x y && D.beqf r t | _ => false
end
mutual
theorem D.beq_iff : ∀ a b : D, D.beq a b = true ↔ a = b
  | .non, b => by cases b <;> simp [D.beq]
  | .bl x, b => by cases b <;> simp [D.beq]
  | .int x, b => by cases b <;> simp [D.beq]
  | .str x, b => by cases b <;> simp [D.beq]
  | .tup x, b => by
    have h := D.beqs_iff x
    cases b <;> simp [D.beq, h]
  | .lst x, b => by
    have h := D.beqs_iff x
    cases b <;> simp [D.beq, h]
  | .dct x, b => by
    have h := D.beqk_iff x
    cases b <;> simp [D.beq, h]
  | .dtt x, b => by
    have h := D.beqk_iff x
    cases b <;> simp [D.beq, h]
  | .obj c x, b => by
    have h := D.beqf_iff x
    cases b <;> simp [D.beq, h]
theorem D.beqs_iff : ∀ a b : List D, D.beqs a b = true ↔ a = b
  | [], b => by cases b <;> simp [D.beqs]
  | x :: r, b => by
    have h := D.beq_iff x
    have h2 := D.beqs_iff r
    cases b <;> simp [D.beqs, h, h2]
theorem D.beqk_iff : ∀ a b : List (D × D), D.beqk a b = true ↔ a = b
  | [], b => by cases b <;> simp [D.beqk]
  | (k, x) :: r, b => by
    have h := D.beq_iff k
    have h1 := D.beq_iff x
    have h2 := D.beqk_iff r
    cases b with
    | nil => simp [D.beqk]
    | cons y t => obtain ⟨l, z⟩ := y; simp [D.beqk, h, h1, h2]
theorem D.beqf_iff : ∀ a b : List (Str × D), D.beqf a b = true ↔ a = b
  | [], b => by cases b <;> simp [D.beqf]
  | (k, x) :: r, b => by
    have h1 := D.beq_iff x
    have h2 := D.beqf_iff r
    cases b with
    | nil => simp [D.beqf]
    | cons y t => obtain ⟨l, z⟩ := y; simp [D.beqf, h1, h2]
end
instance : DecidableEq D := fun a b => decidable_of_iff (D.beq a b = true) (D.beq_iff a b)
example : decide (D.tup [.int 3, .str "ab"] = D.tup [.int 3, .str "ab"]) = true := by decide +kernel
/-- a slot: a shared value, or a thing that the frame alone holds: a list, a dict by ints and texts, a dict by tuples, an object, a dict by nested tuples -/
inductive Sl where
  | sh (d : D) | ol (ds : List D) | od (kvs : List (D × D)) | ot (kvs : List (D × D)) | oo (a : Nat) (c : Nat) (fs : List (Str × D)) | on (kvs : List (D × D))
/-- the frame's own -/
def slOwn : Sl → Bool
  | .sh _ => false
  | _ => true
abbrev En := List (Option Sl)
abbrev Ex := En → Option D
def En.sh (δ : En) (i : Nat) : Option D := match δ[i]? with
  | some (some (.sh d)) => some d
  | _ => none
def En.any (δ : En) (i : Nat) : Option D := match δ[i]? with
  | some (some (.sh d)) => some d
  | some (some (.ol ds)) => some (.lst ds)
  | some (some (.od kvs)) => some (.dct kvs)
  | some (some (.ot kvs)) => some (.dtt kvs)
  | some (some (.oo _ c fs)) => some (.obj c fs)
  | _ => none
def En.put (δ : En) (i : Nat) (s : Sl) : En := δ.set i (some s)
def En.wipe (δ : En) : List Nat → En
  | [] => δ
  | v :: vs => (En.wipe δ vs).set v none
def xVar (i : Nat) : Ex := fun δ => δ.sh i
def bVar (i : Nat) : Ex := fun δ => δ.any i
def xC (d : D) : Ex := fun _ => some d
def x1 (g : D → Option D) (a : Ex) : Ex := fun δ => (a δ).bind g
def x2 (g : D → D → Option D) (a b : Ex) : Ex := fun δ => (a δ).bind fun x => (b δ).bind fun y => g x y
def xs0 : En → Option (List D) := fun _ => some []
def xsC (a : Ex) (r : En → Option (List D)) : En → Option (List D) := fun δ => (a δ).bind fun x => (r δ).bind fun y => some (x :: y)
def xL (g : List D → Option D) (r : En → Option (List D)) : Ex := fun δ => (r δ).bind g
abbrev Tx := En → Option Bool
def tB (a : Ex) : Tx := fun δ => (a δ).bind fun d => match d with
  | .bl b => some b
  | _ => none
def tNot (t : Tx) : Tx := fun δ => (t δ).map (!·)
def tAnd (t u : Tx) : Tx := fun δ => (t δ).bind fun b => if b then u δ else some false
def tOr (t u : Tx) : Tx := fun δ => (t δ).bind fun b => if b then some true else u δ
def xAnd (t : Tx) (u : Ex) : Ex := fun δ => (t δ).bind fun b => if b then u δ else some (.bl false)
def xOr (t : Tx) (u : Ex) : Ex := fun δ => (t δ).bind fun b => if b then some (.bl true) else u δ
def xIf (t : Tx) (a b : Ex) : Ex := fun δ => (t δ).bind fun c => if c then a δ else b δ
def xT (t : Tx) : Ex := fun δ => (t δ).map .bl
def oAdd : D → D → Option D
  | .int i, .int j => some (.int (i + j))
  | _, _ => none
def oSub : D → D → Option D
  | .int i, .int j => some (.int (i - j))
  | _, _ => none
def oMul : D → D → Option D
  | .int i, .int j => if (-(2 ^ 64) < i ∧ i < 2 ^ 64) ∨ (-(2 ^ 64) < j ∧ j < 2 ^ 64) then some (.int (i * j)) else none
  | _, _ => none
def oDiv : D → D → Option D
  | .int i, .int j => if 0 < j ∧ j < 1073741824 then some (.int (i / j)) else none
  | _, _ => none
def oMod : D → D → Option D
  | .int i, .int j => if 0 < j then some (.int (i % j)) else none
  | _, _ => none
def oPow : D → D → Option D
  | .int i, .int j => if 0 ≤ j ∧ j ≤ 1000000 ∧ i.natAbs < 2 ^ 64 then some (.int (i ^ j.toNat)) else none
  | _, _ => none
def oShr : D → D → Option D
  | .int i, .int j => if 0 ≤ j then some (.int (i / 2 ^ j.toNat)) else none
  | _, _ => none
def oBand : D → D → Option D
  | .int i, .int j => some (.int (Builtin.bitAnd i j))
  | _, _ => none
def oNeg : D → Option D
  | .int i => some (.int (-i))
  | _ => none
def oAbs : D → Option D
  | .int i => some (.int (if i < 0 then -i else i))
  | _ => none
/-- the most items that a list is let have here -/
abbrev most : Nat := 100000
def oCat : D → D → Option D
  | .lst a, .lst b => if a.length + b.length ≤ most then some (.lst (a ++ b)) else none
  | _, _ => none
def oCatT : D → D → Option D
  | .tup a, .tup b => if a ≠ [] ∧ b ≠ [] ∧ a.length + b.length ≤ most then some (.tup (a ++ b)) else none
  | _, _ => none
def oLt : D → D → Option D
  | .int i, .int j => some (.bl (decide (i < j)))
  | _, _ => none
def oLe : D → D → Option D
  | .int i, .int j => some (.bl (decide (i ≤ j)))
  | _, _ => none
def oGt : D → D → Option D
  | .int i, .int j => some (.bl (decide (j < i)))
  | _, _ => none
def oGe : D → D → Option D
  | .int i, .int j => some (.bl (decide (j ≤ i)))
  | _, _ => none
/-- no bool, dict, object within; of some depth -/
def plainD : Nat → D → Bool
  | _, .non => true
  | _, .int _ => true
  | _, .str s => s.cps.all (· < 0x110000)
  | n + 1, .tup ds => ds.all (plainD n)
  | n + 1, .lst ds => ds.all (plainD n)
  | _, _ => false
def oEq (d e : D) : Option D := if plainD 8 d = true ∧ plainD 8 e = true then some (.bl (decide (d = e))) else none
def oNe (d e : D) : Option D := if plainD 8 d = true ∧ plainD 8 e = true then some (.bl (!decide (d = e))) else none
def oIsN (d : D) : Option D := some (.bl (decide (d = .non)))
def oNotN (d : D) : Option D := some (.bl (!decide (d = .non)))
/-- keys of dicts: ints, texts, tuples of these -/
def keyOk : D → Bool
  | .int _ => true
  | .str _ => true
  | _ => false
def keyTOk : D → Bool
  | .tup ds => ds.all keyOk
  | _ => false
def dLook (k : D) : List (D × D) → Option D
  | [] => none
  | (a, x) :: r => if a = k then some x else dLook k r
def dPut (k v : D) (kvs : List (D × D)) : List (D × D) := if kvs.any (fun p => decide (p.1 = k)) = true then kvs.map fun p => if p.1 = k then (p.1, v) else p else kvs ++ [(k, v)]
def flatK : D → Bool
  | .non => true
  | .bl _ => true
  | .int _ => true
  | .str _ => true
  | _ => false
/-- x in a list or tuple of texts, ints; in a dict's keys -/
def oIn (x y : D) : Option D := match y with
  | .lst ds => if keyOk x = true ∧ ds.all keyOk = true then some (.bl (decide (x ∈ ds))) else none
  | .tup ds => if keyOk x = true ∧ ds.all keyOk = true then some (.bl (decide (x ∈ ds))) else none
  | .dct kvs => if keyOk x = true then some (.bl (dLook x kvs).isSome) else none
  | .dtt kvs => if keyTOk x = true then some (.bl (dLook x kvs).isSome) else none
  | _ => none
def oNotIn (x y : D) : Option D := (oIn x y).bind fun d => match d with
  | .bl b => some (.bl !b)
  | _ => none
/-- one sign in a text -/
def oInS : D → D → Option D
  | .str x, .str y => match x.cps.toList with
    | [c] => some (.bl (decide (c ∈ y.cps.toList)))
    | _ => none
  | _, _ => none
/-- an index, from either end -/
def nix (n : Nat) (i : Int) : Option Nat := if 0 ≤ i then (if i < n then some i.toNat else none) else if -(n : Int) ≤ i then some (i + n).toNat else none
def oIx : D → D → Option D
  | .lst ds, .int i => (nix ds.length i).bind fun k => ds[k]?
  | .tup ds, .int i => (nix ds.length i).bind fun k => ds[k]?
  | _, _ => none
def oIxT : D → D → Option D
  | .tup ds, .int i => (nix ds.length i).bind fun k => ds[k]?
  | _, _ => none
def oIxL : D → D → Option D
  | .lst ds, .int i => (nix ds.length i).bind fun k => ds[k]?
  | _, _ => none
def oGet : D → D → Option D
  | .dct kvs, k => if keyOk k = true then dLook k kvs else none
  | .dtt kvs, k => if keyTOk k = true then dLook k kvs else none
  | _, _ => none
/-- a slice's bounds -/
def clip (n : Nat) (d : Nat) : Option Int → Nat
  | none => d
  | some i => if i < 0 then (i + n).toNat else min i.toNat n
def cut (ds : List D) (lo hi : Option Int) : List D := (ds.drop (clip ds.length 0 lo)).take (clip ds.length ds.length hi - clip ds.length 0 lo)
def oRev : D → Option D
  | .lst ds => some (.lst ds.reverse)
  | _ => none
def oLen : List D → Option D
  | [.lst ds] => some (.int ds.length)
  | [.tup ds] => some (.int ds.length)
  | [.dct ds] => some (.int ds.length)
  | [.dtt ds] => some (.int ds.length)
  | [.str s] => if s.length ≤ most then some (.int s.length) else none
  | _ => none
def boolsOf : List D → Option (List Bool)
  | [] => some []
  | .bl b :: r => (boolsOf r).map (b :: ·)
  | _ => none
def oAll : List D → Option D
  | [.lst ds] => (boolsOf ds).map fun bs => .bl (bs.all id)
  | _ => none
def oAny : List D → Option D
  | [.lst ds] => (boolsOf ds).map fun bs => .bl (bs.any id)
  | _ => none
def intsOf : List D → Option (List Int)
  | [] => some []
  | .int b :: r => (intsOf r).map (b :: ·)
  | _ => none
def oSum : List D → Option D
  | [.lst ds] => (intsOf ds).map fun bs => .int bs.sum
  | _ => none
def oMax2 : List D → Option D
  | [.int i, .int j] => some (.int (if j > i then j else i))
  | _ => none
def oMin2 : List D → Option D
  | [.int i, .int j] => some (.int (if j < i then j else i))
  | _ => none
def oList : List D → Option D
  | [.lst ds] => some (.lst ds)
  | [.tup ds] => some (.lst ds)
  | [.dct kvs] => some (.lst (kvs.map (·.1)))
  | _ => none
def oTuple : List D → Option D
  | [.lst ds] => some (.tup ds)
  | [.tup ds] => some (.tup ds)
  | _ => none
def pairsOf : List D → Option (List (D × D))
  | [] => some []
  | .tup [k, v] :: r => if keyOk k = true then (pairsOf r).map ((k, v) :: ·) else none
  | _ => none
/-- dict(d), d by ints and texts -/
def oDictD : List D → Option D
  | [.dct kvs] => some (.dct kvs)
  | _ => none
/-- dict of a list of pairs -/
def oDictP : List D → Option D
  | [.lst ds] => if ds.length ≤ most then (pairsOf ds).map fun ps => .dct (ps.foldl (fun m p => dPut p.1 p.2 m) []) else none
  | _ => none
/-- a value's built-in type -/
def tyN : D → Option String
  | .non => some "NoneType"
  | .bl _ => some "bool"
  | .int _ => some "int"
  | .str _ => some "str"
  | .tup _ => some "tuple"
  | .lst _ => some "list"
  | .dct _ => some "dict"
  | .dtt _ => some "dict"
  | .obj _ _ => none
def tyIs (t T : String) : Bool := t == T || (t == "bool" && T == "int")
def oIsi (T : String) (d : D) : Option D := (tyN d).map fun t => .bl (tyIs t T)
def oIsi2 (T U : String) (d : D) : Option D := (tyN d).map fun t => .bl (tyIs t T || tyIs t U)
/-- isinstance(x, C), C the c-th own class -/
def oIsC (c : Nat) : D → Option D
  | .obj c' _ => if c' = c then some (.bl true) else none
  | _ => none
def oFld (f : Str) : D → Option D
  | .obj _ fs => fs.lookup f
  | _ => none
abbrev Ox := En → Option (Option Int)
def po0 : Ox := fun _ => some none
def po1 (a : Ex) : Ox := fun δ => (a δ).bind fun d => match d with
  | .int i => some (some i)
  | _ => none
def xCut (a : Ex) (lo hi : Ox) : Ex := fun δ => (a δ).bind fun d => (lo δ).bind fun l => (hi δ).bind fun h => match d with
  | .lst ds => some (.lst (cut ds l h))
  | _ => none
def isStr : D → Bool
  | .str _ => true
  | _ => false
def isDct : D → Bool
  | .dct _ => true
  | .dtt _ => true
  | _ => false
def isSeq : D → Bool
  | .lst _ => true
  | .tup _ => true
  | _ => false
def isLst : D → Bool
  | .lst _ => true
  | _ => false
def isTup : D → Bool
  | .tup _ => true
  | _ => false
def isInt : D → Bool
  | .int _ => true
  | .bl _ => true
  | _ => false
def isBl : D → Bool
  | .bl _ => true
  | _ => false
abbrev Gx := D → En → Option En
def gN (i : Nat) : Gx := fun d δ => some (δ.put i (.sh d))
abbrev GLx := List D → En → Option En
def gs0 : GLx := fun ds δ => match ds with
  | [] => some δ
  | _ => none
def gsC (g : Gx) (r : GLx) : GLx := fun ds δ => match ds with
  | d :: t => (g d δ).bind (r t)
  | _ => none
def gT (r : GLx) : Gx := fun d δ => match d with
  | .tup ds => r ds δ
  | _ => none
def cL (g : Gx) (p : Tx) (f : Ex) (δ : En) : List D → Option (List D)
  | [] => some []
  | d :: r => (g d δ).bind fun δ' => (p δ').bind fun b => if b then (f δ').bind fun y => (cL g p f δ r).bind fun ys => some (y :: ys) else cL g p f δ r
def cL2 (g : Gx) (p : Tx) (src : En → Option (List D)) (w : List Nat) (g2 : Gx) (p2 : Tx) (f : Ex) (δ : En) : List D → Option (List D)
  | [] => some []
  | d :: r => (g d δ).bind fun δ' => (p δ').bind fun b => if b then (src δ').bind fun es => (cL g2 p2 f (δ'.wipe w) es).bind fun ys => (cL2 g p src w g2 p2 f δ r).bind fun zs => some (ys ++ zs) else cL2 g p src w g2 p2 f δ r
def cD (g : Gx) (p : Tx) (fk fv : Ex) (δ : En) : List D → List (D × D) → Option (List (D × D))
  | [], m => some m
  | d :: r, m => (g d δ).bind fun δ' => (p δ').bind fun b => if b then (fk δ').bind fun k => (fv δ').bind fun v => cD g p fk fv δ r (dPut k v m) else cD g p fk fv δ r m
abbrev Sx := En → Option (List D)
def xLc (src : Sx) (w : List Nat) (g : Gx) (p : Tx) (f : Ex) : Ex := fun δ => (src δ).bind fun ds => (cL g p f (δ.wipe w) ds).map .lst
def tTrue : Tx := fun _ => some true
def sSeq (a : Ex) : Sx := fun δ => (a δ).bind fun d => match d with
  | .lst ds => some ds
  | .tup ds => some ds
  | _ => none
def sKeys (a : Ex) : Sx := fun δ => (a δ).bind fun d => match d with
  | .dct kvs => some (kvs.map (·.1))
  | _ => none
def sVals (a : Ex) : Sx := fun δ => (a δ).bind fun d => match d with
  | .dct kvs => some (kvs.map (·.2))
  | _ => none
def sItems (a : Ex) : Sx := fun δ => (a δ).bind fun d => match d with
  | .dct kvs => some (kvs.map fun p => .tup [p.1, p.2])
  | _ => none
def enumFrom : Nat → List D → List D
  | _, [] => []
  | i, d :: r => .tup [.int i, d] :: enumFrom (i + 1) r
def sEnum (a : Ex) : Sx := fun δ => (a δ).bind fun d => match d with
  | .lst ds => some (enumFrom 0 ds)
  | _ => none
def sStr (a : Ex) : Sx := fun δ => (a δ).bind fun d => match d with
  | .str s => if s.cps.size ≤ most then some (s.cps.toList.map fun c => .str ⟨#[c]⟩) else none
  | _ => none
def upTo (lo : Int) : Nat → List D
  | 0 => []
  | n + 1 => .int lo :: upTo (lo + 1) n
end BP
set_option Elab.async false
set_option maxRecDepth 100000
set_option maxHeartbeats 4000000
namespace BP
open PySem L2
def NF : HO → Prop
  | .frz _ _ => False
  | _ => True
/-- all that can be read in H can be read in H' -/
structure Le (H H' : Hp) : Prop where
  rd : ∀ a u, NF u → Rd H a u → Rd H' a u
  tup : ∀ a xs, H a = some (.tup xs) → H' a = some (.tup xs)
  lst : ∀ a xs, H a = some (.lst xs) → H' a = some (.lst xs)
  ins : ∀ a C dx fs, H a = some (.ins C dx fs) → H' a = some (.ins C dx fs)
theorem Le.refl (H : Hp) : Le H H := ⟨fun _ _ _ h => h, fun _ _ h => h, fun _ _ h => h, fun _ _ _ _ h => h⟩
theorem Le.trans {H H1 H2 : Hp} (a : Le H H1) (b : Le H1 H2) : Le H H2 := ⟨fun x u n h => b.rd x u n (a.rd x u n h), fun x u h => b.tup x u (a.tup x u h), fun x u h => b.lst x u (a.lst x u h), fun x C d f h => b.ins x C d f (a.ins x C d f h)⟩
/-- all that stands in H stands in H' -/
def Ext (H H' : Hp) : Prop := ∀ a o, H a = some o → H' a = some o
theorem Ext.refl (H : Hp) : Ext H H := fun _ _ h => h
theorem Ext.trans {H H1 H2 : Hp} (a : Ext H H1) (b : Ext H1 H2) : Ext H H2 := fun x o h => b x o (a x o h)
theorem Ext.le {H H' : Hp} (e : Ext H H') : Le H H' := ⟨fun a u _ h => by
  rcases h with h | ⟨o, h⟩
  · exact .inl (e _ _ h)
  · exact .inr ⟨o, e _ _ h⟩, fun a xs h => e _ _ h, fun a xs h => e _ _ h, fun a C dx fs h => e _ _ h⟩
theorem Ext.upd {H : Hp} {p : Addr} {o : HO} (h : H p = none) : Ext H (upd H p o) := fun a u e => by
  rw [upd_ne (ne_of_none e h)]; exact e
open Classical in
/-- the heap without the addresses Z -/
noncomputable def hide (Z : Addr → Prop) (H : Hp) : Hp := fun a => if Z a then none else H a
theorem hide_some {Z : Addr → Prop} {H : Hp} {a : Addr} {o : HO} : hide Z H a = some o ↔ ¬ Z a ∧ H a = some o := by
  unfold hide; split <;> simp_all
theorem hide_le (Z : Addr → Prop) (H : Hp) : Le (hide Z H) H := ⟨fun a u _ h => by
  rcases h with h | ⟨o, h⟩
  · exact .inl (hide_some.mp h).2
  · exact .inr ⟨o, (hide_some.mp h).2⟩, fun a xs h => (hide_some.mp h).2, fun a xs h => (hide_some.mp h).2, fun a C dx fs h => (hide_some.mp h).2⟩
/-- what is not in Z stands -/
def ExtZ (Z : Addr → Prop) (H H' : Hp) : Prop := ∀ a o, ¬ Z a → H a = some o → H' a = some o
theorem ExtZ.of {Z : Addr → Prop} {H H' : Hp} (e : Ext H H') : ExtZ Z H H' := fun a o _ h => e a o h
theorem ExtZ.refl (Z : Addr → Prop) (H : Hp) : ExtZ Z H H := fun _ _ _ h => h
theorem ExtZ.trans {Z : Addr → Prop} {H H1 H2 : Hp} (a : ExtZ Z H H1) (b : ExtZ Z H1 H2) : ExtZ Z H H2 := fun x o n h => b x o n (a x o n h)
theorem ExtZ.le {Z : Addr → Prop} {H H' : Hp} (e : ExtZ Z H H') : Le (hide Z H) (hide Z H') := by
  refine ⟨fun a u _ h => ?_, fun a xs h => ?_, fun a xs h => ?_, fun a C dx fs h => ?_⟩
  · rcases h with h | ⟨o, h⟩
    · obtain ⟨n, q⟩ := hide_some.mp h
      exact .inl (hide_some.mpr ⟨n, e _ _ n q⟩)
    · obtain ⟨n, q⟩ := hide_some.mp h
      exact .inr ⟨o, hide_some.mpr ⟨n, e _ _ n q⟩⟩
  · obtain ⟨n, q⟩ := hide_some.mp h
    exact hide_some.mpr ⟨n, e _ _ n q⟩
  · obtain ⟨n, q⟩ := hide_some.mp h
    exact hide_some.mpr ⟨n, e _ _ n q⟩
  · obtain ⟨n, q⟩ := hide_some.mp h
    exact hide_some.mpr ⟨n, e _ _ n q⟩
theorem Ext.hide {Z : Addr → Prop} {H H' : Hp} (e : Ext H H') : Le (hide Z H) (BP.hide Z H') := (ExtZ.of e).le
/-- Z's addresses are taken -/
def ZOk (Z : Addr → Prop) (H : Hp) : Prop := ∀ a, Z a → ∃ o, H a = some o ∧ (∀ xs, o ≠ .tup xs)
theorem ZOk.fresh {Z : Addr → Prop} {H : Hp} (z : ZOk Z H) {p : Addr} (h : H p = none) : ¬ Z p := fun q => by
  obtain ⟨o, e, _⟩ := z p q
  rw [h] at e; cases e
theorem ZOk.ext {Z : Addr → Prop} {H H' : Hp} (z : ZOk Z H) (e : Ext H H') : ZOk Z H' := fun a q => by
  obtain ⟨o, h, n⟩ := z a q
  exact ⟨o, e _ _ h, n⟩
/-- where the classes stand; the world that hashes -/
structure Kap where
  cl : Nat → Addr
  wd : World
instance : CoeFun Kap (fun _ => Nat → Addr) := ⟨Kap.cl⟩
mutual
def nkD : D → Option NestedKey
  | .int i => some (.num i)
  | .str s => some (.text s)
  | .tup ds => (nkDs ds).map .tup
  | _ => none
def nkDs : List D → Option (List NestedKey)
  | [] => some []
  | d :: r => (nkD d).bind fun a => (nkDs r).map (a :: ·)
end
/-- the dict at a, by its raw entries -/
def DN (w : World) (a : Addr) (l : List (NestedKey × Addr × Value)) : HO := .ext fun h => (a == sysModules) = false ∧ l.length ≤ sizeLine ∧ (l.map (·.1)).Nodup ∧ (∀ x ∈ l, x.1.depth ≤ 8) ∧ ∃ o es ep, h.get? a = some o ∧ o.ExactDict ∧ o.data = .dict es ep ∧ es.toList = l.map fun x => (⟨x.1.hash w, .ref x.2.1, x.2.2⟩ : DictEntry)
def keyD : Key → D
  | .inl i => .int i
  | .inr s => .str s
theorem keyD_inj : ∀ {a b : Key}, keyD a = keyD b → a = b
  | .inl _, .inl _, h => by injection h with h; rw [h]
  | .inr _, .inr _, h => by injection h with h; rw [h]
  | .inl _, .inr _, h => nomatch h
  | .inr _, .inl _, h => nomatch h
theorem keysD_inj : ∀ {a b : List Key}, a.map keyD = b.map keyD → a = b
  | [], [], _ => rfl
  | [], _ :: _, h => by simp at h
  | _ :: _, [], h => by simp at h
  | x :: r, y :: t, h => by
    simp only [List.map_cons, List.cons.injEq] at h
    rw [keyD_inj h.1, keysD_inj h.2]
section
variable (κ : Kap)
mutual
def Rep (H : Hp) : D → V → Prop
  | .non, v => v = .non
  | .bl b, v => v = .bl b
  | .int i, v => v = .int i
  | .str s, v => v = .str s
  | .tup ds, v => ∃ p vs, v = .ref p ∧ H p = some (.tup vs) ∧ Reps H ds vs
  | .lst ds, v => ∃ p vs, v = .ref p ∧ H p = some (.lst vs) ∧ Reps H ds vs
  | .dct kvs, v => ∃ p l, v = .ref p ∧ Rd H p (.dK l) ∧ RepK H kvs l
  | .dtt kvs, v => ∃ p l, v = .ref p ∧ Rd H p (.dT l) ∧ RepT H kvs l
  | .obj c fs, v => ∃ p dx l, v = .ref p ∧ H p = some (.ins (κ c) dx l) ∧ RepF H fs l
def Reps (H : Hp) : List D → List V → Prop
  | [], vs => vs = []
  | d :: ds, vs => ∃ v r, vs = v :: r ∧ Rep H d v ∧ Reps H ds r
def RepK (H : Hp) : List (D × D) → List (Key × V) → Prop
  | [], l => l = []
  | (k, d) :: r, l => ∃ k' v t, l = (k', v) :: t ∧ k = keyD k' ∧ Rep H d v ∧ RepK H r t
def RepT (H : Hp) : List (D × D) → List (List Key × V) → Prop
  | [], l => l = []
  | (k, d) :: r, l => ∃ k' v t, l = (k', v) :: t ∧ k = .tup (k'.map keyD) ∧ Rep H d v ∧ RepT H r t
def RepF (H : Hp) : List (Str × D) → List (Str × V) → Prop
  | [], l => l = []
  | (k, d) :: r, l => ∃ v t, l = (k, v) :: t ∧ Rep H d v ∧ RepF H r t
end
def RepN (H : Hp) : List (D × D) → List (NestedKey × Addr × Value) → Prop
  | [], l => l = []
  | (k, d) :: r, l => ∃ nk ka u v t, l = (nk, ka, u) :: t ∧ nkD k = some nk ∧ Rep κ H k (.ref ka) ∧ RelV v u ∧ Rep κ H d v ∧ RepN H r t
variable {κ}
variable {K : PySem.W.Frag}
theorem SqL.le {H H' : Hp} (e : Le H H') {p : Addr} {vs : List V} (h : SqL K H p vs) : SqL K H' p vs := by
  rcases h with h | h
  · exact .inl (e.rd _ _ trivial h)
  · exact .inr h
mutual
theorem Rep.le {H H' : Hp} (e : Le H H') : ∀ (d : D) (v : V), Rep κ H d v → Rep κ H' d v
  | .non, _, h => h
  | .bl _, _, h => h
  | .int _, _, h => h
  | .str _, _, h => h
  | .tup ds, v, ⟨p, vs, a, b, c⟩ => ⟨p, vs, a, e.tup _ _ b, Reps.le e ds vs c⟩
  | .lst ds, v, ⟨p, vs, a, b, c⟩ => ⟨p, vs, a, e.lst _ _ b, Reps.le e ds vs c⟩
  | .dct kvs, v, ⟨p, l, a, b, c⟩ => ⟨p, l, a, e.rd _ _ trivial b, RepK.le e kvs l c⟩
  | .dtt kvs, v, ⟨p, l, a, b, c⟩ => ⟨p, l, a, e.rd _ _ trivial b, RepT.le e kvs l c⟩
  | .obj c fs, v, ⟨p, dx, l, a, b, q⟩ => ⟨p, dx, l, a, e.ins _ _ _ _ b, RepF.le e fs l q⟩
theorem Reps.le {H H' : Hp} (e : Le H H') : ∀ (ds : List D) (vs : List V), Reps κ H ds vs → Reps κ H' ds vs
  | [], _, h => h
  | d :: ds, _, ⟨v, r, a, b, c⟩ => ⟨v, r, a, Rep.le e d v b, Reps.le e ds r c⟩
theorem RepK.le {H H' : Hp} (e : Le H H') : ∀ (ds : List (D × D)) (vs : List (Key × V)), RepK κ H ds vs → RepK κ H' ds vs
  | [], _, h => h
  | (k, d) :: ds, _, ⟨k', v, r, a, b, c, q⟩ => ⟨k', v, r, a, b, Rep.le e d v c, RepK.le e ds r q⟩
theorem RepT.le {H H' : Hp} (e : Le H H') : ∀ (ds : List (D × D)) (vs : List (List Key × V)), RepT κ H ds vs → RepT κ H' ds vs
  | [], _, h => h
  | (k, d) :: ds, _, ⟨k', v, r, a, b, c, q⟩ => ⟨k', v, r, a, b, Rep.le e d v c, RepT.le e ds r q⟩
theorem RepF.le {H H' : Hp} (e : Le H H') : ∀ (ds : List (Str × D)) (vs : List (Str × V)), RepF κ H ds vs → RepF κ H' ds vs
  | [], _, h => h
  | (k, d) :: ds, _, ⟨v, r, a, b, c⟩ => ⟨v, r, a, Rep.le e d v b, RepF.le e ds r c⟩
end
theorem RepN.le {H H' : Hp} (e : Le H H') : ∀ (ds : List (D × D)) (vs : List (NestedKey × Addr × Value)), RepN κ H ds vs → RepN κ H' ds vs
  | [], _, h => h
  | (k, d) :: ds, _, ⟨nk, ka, u, v, t, a, b, c, q, r, n⟩ => ⟨nk, ka, u, v, t, a, b, Rep.le e k _ c, q, Rep.le e d v r, RepN.le e ds t n⟩
theorem Reps.length {H : Hp} : ∀ {ds : List D} {vs : List V}, Reps κ H ds vs → vs.length = ds.length
  | [], _, h => by subst h; rfl
  | d :: ds, _, ⟨v, r, a, b, c⟩ => by subst a; simp [Reps.length c]
theorem Reps.get {H : Hp} : ∀ {ds : List D} {vs : List V} {i : Nat} {d : D}, Reps κ H ds vs → ds[i]? = some d → ∃ v, vs[i]? = some v ∧ Rep κ H d v
  | [], _, _, _, _, e => by simp at e
  | d :: ds, _, 0, _, ⟨v, r, a, b, c⟩, e => by simp at e; subst e a; exact ⟨v, rfl, b⟩
  | d :: ds, _, i + 1, _, ⟨v, r, a, b, c⟩, e => by
    subst a
    obtain ⟨v', h1, h2⟩ := Reps.get (i := i) c (by simpa using e)
    exact ⟨v', by simpa using h1, h2⟩
theorem Reps.get' {H : Hp} : ∀ {ds : List D} {vs : List V} {i : Nat} {v : V}, Reps κ H ds vs → vs[i]? = some v → ∃ d, ds[i]? = some d ∧ Rep κ H d v
  | [], _, _, _, h, e => by subst h; simp at e
  | d :: ds, _, 0, _, ⟨v, r, a, b, c⟩, e => by subst a; simp at e; subst e; exact ⟨d, rfl, b⟩
  | d :: ds, _, i + 1, _, ⟨v, r, a, b, c⟩, e => by
    subst a
    obtain ⟨v', h1, h2⟩ := Reps.get' (i := i) c (by simpa using e)
    exact ⟨v', by simpa using h1, h2⟩
theorem Reps.append {H : Hp} : ∀ {ds es : List D} {vs us : List V}, Reps κ H ds vs → Reps κ H es us → Reps κ H (ds ++ es) (vs ++ us)
  | [], _, _, _, h, q => by subst h; exact q
  | d :: ds, _, _, _, ⟨v, r, a, b, c⟩, q => by subst a; exact ⟨v, r ++ _, rfl, b, Reps.append c q⟩
theorem Reps.take {H : Hp} : ∀ {ds : List D} {vs : List V} (n : Nat), Reps κ H ds vs → Reps κ H (ds.take n) (vs.take n)
  | [], _, n, h => by subst h; simp [Reps]
  | d :: ds, _, 0, h => by simp [Reps]
  | d :: ds, _, n + 1, ⟨v, r, a, b, c⟩ => by subst a; exact ⟨v, r.take n, by simp, b, Reps.take n c⟩
theorem Reps.drop {H : Hp} : ∀ {ds : List D} {vs : List V} (n : Nat), Reps κ H ds vs → Reps κ H (ds.drop n) (vs.drop n)
  | [], _, n, h => by subst h; simp [Reps]
  | d :: ds, _, 0, h => by simpa using h
  | d :: ds, _, n + 1, ⟨v, r, a, b, c⟩ => by subst a; simpa using Reps.drop n c
theorem Reps.reverse {H : Hp} : ∀ {ds : List D} {vs : List V}, Reps κ H ds vs → Reps κ H ds.reverse vs.reverse
  | [], _, h => by subst h; simp [Reps]
  | d :: ds, _, ⟨v, r, a, b, c⟩ => by
    subst a
    rw [List.reverse_cons, List.reverse_cons]
    exact Reps.append (Reps.reverse c) ⟨v, [], rfl, b, rfl⟩
theorem Reps.set {H : Hp} {d : D} {v : V} (q : Rep κ H d v) : ∀ {ds : List D} {vs : List V} (n : Nat), Reps κ H ds vs → Reps κ H (ds.set n d) (vs.set n v)
  | [], _, n, h => by subst h; simp [Reps]
  | _ :: ds, _, 0, ⟨v, r, a, b, c⟩ => by subst a; exact ⟨_, r, rfl, q, c⟩
  | _ :: ds, _, n + 1, ⟨v, r, a, b, c⟩ => by subst a; exact ⟨v, r.set n _, rfl, b, Reps.set q n c⟩
theorem Reps.snoc {H : Hp} {ds : List D} {vs : List V} {d : D} {v : V} (h : Reps κ H ds vs) (q : Rep κ H d v) : Reps κ H (ds ++ [d]) (vs ++ [v]) := Reps.append h ⟨v, [], rfl, q, rfl⟩
/-- the root is looked for in R, what is below in H -/
def Rep1 (K : PySem.W.Frag) (κ : Kap) (R H : Hp) : D → V → Prop
  | .tup ds, v => ∃ p vs, v = .ref p ∧ R p = some (.tup vs) ∧ Reps κ H ds vs
  | .lst ds, v => ∃ p vs, v = .ref p ∧ SqL K R p vs ∧ Reps κ H ds vs
  | .dct kvs, v => ∃ p l, v = .ref p ∧ Rd R p (.dK l) ∧ RepK κ H kvs l
  | .dtt kvs, v => ∃ p l, v = .ref p ∧ Rd R p (.dT l) ∧ RepT κ H kvs l
  | .obj c fs, v => ∃ p dx l, v = .ref p ∧ R p = some (.ins (κ c) dx l) ∧ RepF κ H fs l
  | d, v => Rep κ H d v
theorem Rep1.of {H : Hp} {d : D} {v : V} (h : Rep κ H d v) : Rep1 K κ H H d v := by
  cases d with
  | lst ds => obtain ⟨p, vs, a, b, c⟩ := h; exact ⟨p, vs, a, SqL.of b, c⟩
  | _ => exact h
theorem Rep1.root {R R' H : Hp} (e : Le R R') {d : D} {v : V} (h : Rep1 K κ R H d v) : Rep1 K κ R' H d v := by
  cases d with
  | tup ds => obtain ⟨p, vs, a, b, c⟩ := h; exact ⟨p, vs, a, e.tup _ _ b, c⟩
  | lst ds => obtain ⟨p, vs, a, b, c⟩ := h; exact ⟨p, vs, a, SqL.le e b, c⟩
  | dct kvs => obtain ⟨p, l, a, b, c⟩ := h; exact ⟨p, l, a, e.rd _ _ trivial b, c⟩
  | dtt kvs => obtain ⟨p, l, a, b, c⟩ := h; exact ⟨p, l, a, e.rd _ _ trivial b, c⟩
  | obj c fs => obtain ⟨p, dx, l, a, b, q⟩ := h; exact ⟨p, dx, l, a, e.ins _ _ _ _ b, q⟩
  | _ => exact h
theorem Rep1.below {R H H' : Hp} (e : Le H H') {d : D} {v : V} (h : Rep1 K κ R H d v) : Rep1 K κ R H' d v := by
  cases d with
  | tup ds => obtain ⟨p, vs, a, b, c⟩ := h; exact ⟨p, vs, a, b, Reps.le e _ _ c⟩
  | lst ds => obtain ⟨p, vs, a, b, c⟩ := h; exact ⟨p, vs, a, b, Reps.le e _ _ c⟩
  | dct kvs => obtain ⟨p, l, a, b, c⟩ := h; exact ⟨p, l, a, b, RepK.le e _ _ c⟩
  | dtt kvs => obtain ⟨p, l, a, b, c⟩ := h; exact ⟨p, l, a, b, RepT.le e _ _ c⟩
  | obj c fs => obtain ⟨p, dx, l, a, b, q⟩ := h; exact ⟨p, dx, l, a, b, RepF.le e _ _ q⟩
  | non => exact h
  | bl _ => exact h
  | int _ => exact h
  | str _ => exact h
/-- a clean value as an operand -/
theorem Rep1.clean {Z : Addr → Prop} {H : Hp} {d : D} {v : V} (h : Rep κ (hide Z H) d v) : Rep1 K κ H (hide Z H) d v := (Rep1.of h).root (hide_le Z H)
theorem Rep1.ext {Z : Addr → Prop} {H H' : Hp} (e : Ext H H') {d : D} {v : V} (h : Rep1 K κ H (hide Z H) d v) : Rep1 K κ H' (hide Z H') d v := (h.root e.le).below e.hide
theorem Rep.ext {Z : Addr → Prop} {H H' : Hp} (e : Ext H H') {d : D} {v : V} (h : Rep κ (hide Z H) d v) : Rep κ (hide Z H') d v := Rep.le e.hide d v h
theorem Reps.ext {Z : Addr → Prop} {H H' : Hp} (e : Ext H H') {d : List D} {v : List V} (h : Reps κ (hide Z H) d v) : Reps κ (hide Z H') d v := Reps.le e.hide d v h
mutual
def flatD : D → Bool
  | .tup ds => flatDs ds
  | .lst _ => false
  | .dct _ => false
  | .dtt _ => false
  | .obj _ _ => false
  | _ => true
def flatDs : List D → Bool
  | [] => true
  | d :: r => flatD d && flatDs r
end
mutual
theorem Rep.flat {H H' : Hp} (e : ∀ a xs, H a = some (.tup xs) → H' a = some (.tup xs)) : ∀ (d : D) (v : V), flatD d = true → Rep κ H d v → Rep κ H' d v
  | .non, _, _, h => h
  | .bl _, _, _, h => h
  | .int _, _, _, h => h
  | .str _, _, _, h => h
  | .tup ds, v, f, ⟨p, vs, a, b, c⟩ => ⟨p, vs, a, e _ _ b, Reps.flat e ds vs (by simpa [flatD] using f) c⟩
  | .lst ds, v, f, _ => by simp [flatD] at f
  | .dct kvs, v, f, _ => by simp [flatD] at f
  | .dtt kvs, v, f, _ => by simp [flatD] at f
  | .obj c fs, v, f, _ => by simp [flatD] at f
theorem Reps.flat {H H' : Hp} (e : ∀ a xs, H a = some (.tup xs) → H' a = some (.tup xs)) : ∀ (d : List D) (v : List V), flatDs d = true → Reps κ H d v → Reps κ H' d v
  | [], _, _, h => h
  | d :: ds, _, f, ⟨v, r, a, b, c⟩ => by
    simp only [flatDs, Bool.and_eq_true] at f
    exact ⟨v, r, a, Rep.flat e d v f.1 b, Reps.flat e ds r f.2 c⟩
end
/-- a flat operand is clean -/
theorem Rep1.flat {Z : Addr → Prop} {H : Hp} (z : ZOk Z H) {d : D} {v : V} (f : flatD d = true) (h : Rep1 K κ H (hide Z H) d v) : Rep κ (hide Z H) d v := by
  cases d with
  | tup ds =>
    obtain ⟨p, vs, a, b, c⟩ := h
    refine ⟨p, vs, a, hide_some.mpr ⟨fun q => ?_, b⟩, c⟩
    obtain ⟨o, e, n⟩ := z p q
    rw [b] at e; cases e; exact n _ rfl
  | lst ds => simp [flatD] at f
  | dct kvs => simp [flatD] at f
  | dtt kvs => simp [flatD] at f
  | obj c fs => simp [flatD] at f
  | _ => exact h
end
end BP
namespace BP
open PySem L2
section
variable {K : PySem.W.Frag} {κ : Kap}
/-- a slot is what the environment says -/
def SlR (K : PySem.W.Frag) (κ : Kap) (H : Hp) (Z : Addr → Prop) (o : Option (Option V)) : Sl → Prop
  | .sh d => ∃ v, o = some (some v) ∧ Rep κ (hide Z H) d v
  | .ol ds => ∃ a vs, o = some (some (.ref a)) ∧ Z a ∧ H a = some (.lst vs) ∧ Reps κ (hide Z H) ds vs
  | .od kvs => ∃ a l, o = some (some (.ref a)) ∧ Z a ∧ H a = some (.dK l) ∧ RepK κ (hide Z H) kvs l
  | .ot kvs => ∃ a l, o = some (some (.ref a)) ∧ Z a ∧ H a = some (.dT l) ∧ RepT κ (hide Z H) kvs l
  | .on kvs => ∃ a l, o = some (some (.ref a)) ∧ Z a ∧ H a = some (DN κ.wd a l) ∧ RepN κ (hide Z H) kvs l
  | .oo a0 c fs => ∃ a dx l, (o = some (some (.ref a)) ∧ a = a0) ∧ Z a ∧ H a = some (.ins (κ c) dx l) ∧ RepF κ (hide Z H) fs l
structure EnvR (K : PySem.W.Frag) (κ : Kap) (H : Hp) (Z : Addr → Prop) (σ : L2.St) (δ : En) : Prop where
  len : δ.length = σ.length
  at_ : ∀ (i : Nat) (sl : Sl), δ[i]? = some (some sl) → SlR K κ H Z σ[i]? sl
theorem SlR.ext {H H' : Hp} {Z : Addr → Prop} {o : Option (Option V)} (e : Ext H H') : ∀ {sl : Sl}, SlR K κ H Z o sl → SlR K κ H' Z o sl
  | .sh _, ⟨v, a, b⟩ => ⟨v, a, Rep.ext e b⟩
  | .ol _, ⟨a, vs, h, z, q, r⟩ => ⟨a, vs, h, z, e _ _ q, Reps.ext e r⟩
  | .od _, ⟨a, vs, h, z, q, r⟩ => ⟨a, vs, h, z, e _ _ q, RepK.le e.hide _ _ r⟩
  | .ot _, ⟨a, vs, h, z, q, r⟩ => ⟨a, vs, h, z, e _ _ q, RepT.le e.hide _ _ r⟩
  | .on _, ⟨a, vs, h, z, q, r⟩ => ⟨a, vs, h, z, e _ _ q, RepN.le e.hide _ _ r⟩
  | .oo _ _ _, ⟨a, dx, vs, h, z, q, r⟩ => ⟨a, dx, vs, h, z, e _ _ q, RepF.le e.hide _ _ r⟩
theorem EnvR.ext {H H' : Hp} {Z : Addr → Prop} {σ : L2.St} {δ : En} (E : EnvR K κ H Z σ δ) (e : Ext H H') : EnvR K κ H' Z σ δ := ⟨E.len, fun i sl h => (E.at_ i sl h).ext e⟩
theorem EnvR.sh {H : Hp} {Z : Addr → Prop} {σ : L2.St} {δ : En} {i : Nat} {d : D} (E : EnvR K κ H Z σ δ) (h : δ.sh i = some d) : ∃ v, σ[i]? = some (some v) ∧ Rep κ (hide Z H) d v := by
  unfold En.sh at h
  split at h
  · next d' e => cases h; exact E.at_ i _ e
  · cases h
theorem EnvR.any {H : Hp} {Z : Addr → Prop} {σ : L2.St} {δ : En} {i : Nat} {d : D} (E : EnvR K κ H Z σ δ) (h : δ.any i = some d) : ∃ v, σ[i]? = some (some v) ∧ Rep1 K κ H (hide Z H) d v := by
  unfold En.any at h
  split at h
  · next d' e =>
    cases h
    obtain ⟨v, a, b⟩ := E.at_ i _ e
    exact ⟨v, a, .clean b⟩
  · next ds e => cases h; obtain ⟨a, vs, h, z, q, r⟩ := E.at_ i _ e; exact ⟨_, h, a, vs, rfl, SqL.of q, r⟩
  · next ds e => cases h; obtain ⟨a, vs, h, z, q, r⟩ := E.at_ i _ e; exact ⟨_, h, a, vs, rfl, .inl q, r⟩
  · next ds e => cases h; obtain ⟨a, vs, h, z, q, r⟩ := E.at_ i _ e; exact ⟨_, h, a, vs, rfl, .inl q, r⟩
  · next c fs e => cases h; obtain ⟨a, dx, vs, h, z, q, r⟩ := E.at_ i _ e; exact ⟨_, h.1, a, dx, vs, rfl, q, r⟩
  · cases h
/-- a shared value goes into a slot -/
theorem EnvR.put {H : Hp} {Z : Addr → Prop} {σ : L2.St} {δ : En} {i : Nat} {sl : Sl} {v : V} (E : EnvR K κ H Z σ δ) (h : SlR K κ H Z (some (some v)) sl) : EnvR K κ H Z (σ.set i (some v)) (δ.put i sl) := by
  refine ⟨by unfold En.put; rw [List.length_set, List.length_set, E.len], fun j s e => ?_⟩
  unfold En.put at e
  by_cases hj : i = j
  · subst hj
    have hl : i < δ.length := by
      have := (List.getElem?_eq_some_iff.mp e).1
      simpa using this
    rw [List.getElem?_set_self hl] at e
    cases e
    rw [List.getElem?_set_self (by rw [← E.len]; exact hl)]
    exact h
  · rw [List.getElem?_set_ne hj] at e ⊢
    exact E.at_ j s e
theorem EnvR.forget {H : Hp} {Z : Addr → Prop} {σ : L2.St} {δ : En} (E : EnvR K κ H Z σ δ) (i : Nat) : EnvR K κ H Z (σ.set i none) (δ.set i none) := by
  refine ⟨by rw [List.length_set, List.length_set, E.len], fun j s e => ?_⟩
  by_cases hj : i = j
  · subst hj
    have hl : i < δ.length := by
      have := (List.getElem?_eq_some_iff.mp e).1
      simpa using this
    rw [List.getElem?_set_self hl] at e
    cases e
  · rw [List.getElem?_set_ne hj] at e ⊢
    exact E.at_ j s e
theorem EnvR.wipe {H : Hp} {Z : Addr → Prop} {σ : L2.St} {δ : En} (E : EnvR K κ H Z σ δ) : ∀ w : List Nat, EnvR K κ H Z (L2.wipe σ w) (δ.wipe w)
  | [] => E
  | v :: vs => (EnvR.wipe E vs).forget v
end
/-- a clean value; an operand; a list of values; a test -/
def tPX (K : PySem.W.Frag) (κ : Kap) (f : Ex) : TE := fun σ H Q => ∃ (δ : En) (Z : Addr → Prop), ZOk Z H ∧ EnvR K κ H Z σ δ ∧ ∃ d, f δ = some d ∧ ∀ v H', Ext H H' → Rep κ (hide Z H') d v → Q v H'
def tPB (K : PySem.W.Frag) (κ : Kap) (f : Ex) : TE := fun σ H Q => ∃ (δ : En) (Z : Addr → Prop), ZOk Z H ∧ EnvR K κ H Z σ δ ∧ ∃ d, f δ = some d ∧ ∀ v H', Ext H H' → Rep1 K κ H' (hide Z H') d v → Q v H'
def tPA (K : PySem.W.Frag) (κ : Kap) (f : Sx) : TA := fun σ H Q => ∃ (δ : En) (Z : Addr → Prop), ZOk Z H ∧ EnvR K κ H Z σ δ ∧ ∃ d, f δ = some d ∧ ∀ v H', Ext H H' → Reps κ (hide Z H') d v → Q v H'
def tPT (K : PySem.W.Frag) (κ : Kap) (f : Tx) : TT := fun σ H Q => ∃ (δ : En) (Z : Addr → Prop), ZOk Z H ∧ EnvR K κ H Z σ δ ∧ ∃ b, f δ = some b ∧ ∀ H', Ext H H' → Q b H'
abbrev PX (κ : Kap) (X : Cx) (e : Expr) (f : Ex) : Prop := PE X e (tPX X.K κ f)
abbrev PB (κ : Kap) (X : Cx) (e : Expr) (f : Ex) : Prop := PE X e (tPB X.K κ f)
abbrev PAx (κ : Kap) (X : Cx) (es : List Expr) (f : Sx) : Prop := PA X es (tPA X.K κ f)
abbrev PTx (κ : Kap) (X : Cx) (e : Expr) (f : Tx) : Prop := PT X e (tPT X.K κ f)
abbrev PWx (κ : Kap) (X : Cx) (e : Expr) (f : Tx) : Prop := PW X e (tPT X.K κ f)
structure Kn (X : Cx) (k : Nat) : Prop where
  calm : X.calm = true
  nd : X.N.Nodup
  room : Room k X.A
section
variable {κ : Kap} {X : Cx} {a b c e : Expr} {es : List Expr} {f fa fb fc : Ex} {g gr : Sx} {pos p apos : Pos} {k : Nat}
theorem pe_mono {t t' : TE} (h : PE X e t) (w : ∀ σ H Q, t' σ H Q → t σ H Q) : PE X e t' := ⟨fun pins s σ H Q I q => h.run pins s σ H Q I (w _ _ _ q)⟩
theorem pt_mono {t t' : TT} (h : PT X e t) (w : ∀ σ H Q, t' σ H Q → t σ H Q) : PT X e t' := ⟨fun pins s σ H Q I q => h.run pins s σ H Q I (w _ _ _ q)⟩
theorem pa_mono {t t' : TA} (h : PA X es t) (w : ∀ σ H Q, t' σ H Q → t σ H Q) : PA X es t' := ⟨fun ps pins s σ H Q I q => h.run ps pins s σ H Q I (w _ _ _ q)⟩
/-- a clean value is an operand -/
theorem PB.of (h : PX κ X e f) : PB κ X e f := pe_mono h fun σ H Q ⟨δ, Z, z, E, d, hd, q⟩ => ⟨δ, Z, z, E, d, hd, fun v H' e r => q v H' e (.clean r)⟩
theorem X_var (i : Nat) {x : Str} (hN : X.N[i]? = some x := by rfl) (hv : Vis X.env.scope x := by first | exact Or.inl rfl | exact Or.inr (Or.inl rfl) | exact Or.inr (Or.inr rfl)) (hd : (x == ("__debug__" : Str)) = false := by decide)
    (hcd : (x == ("__classdict__" : Str)) = false := by decide) : PX κ X (.Name x pos) (xVar i) :=
  pe_mono (pe_var hN hv hd hcd) fun σ H Q ⟨δ, Z, z, E, d, hd, q⟩ => by
    obtain ⟨v, h1, h2⟩ := E.sh hd
    exact ⟨v, h1, q v H (.refl H) h2⟩
theorem B_var (i : Nat) {x : Str} (hN : X.N[i]? = some x := by rfl) (hv : Vis X.env.scope x := by first | exact Or.inl rfl | exact Or.inr (Or.inl rfl) | exact Or.inr (Or.inr rfl)) (hd : (x == ("__debug__" : Str)) = false := by decide)
    (hcd : (x == ("__classdict__" : Str)) = false := by decide) : PB κ X (.Name x pos) (bVar i) :=
  pe_mono (pe_var hN hv hd hcd) fun σ H Q ⟨δ, Z, z, E, d, hd, q⟩ => by
    obtain ⟨v, h1, h2⟩ := E.any hd
    exact ⟨v, h1, q v H (.refl H) h2⟩
theorem px_const {d : D} {v : V} (h : PE X e (tC v)) (r : ∀ H, Rep κ H d v) : PX κ X e (xC d) := pe_mono h fun σ H Q ⟨δ, Z, z, E, d', hd, q⟩ => by
  cases hd
  exact q v H (.refl H) (r _)
theorem X_int {i : Int} {j : Nat} : PX κ X (.Constant (.int i) j pos) (xC (.int i)) := px_const pe_int fun _ => rfl
theorem X_str {s : Str} {j : Nat} : PX κ X (.Constant (.str s) j pos) (xC (.str s)) := px_const pe_str fun _ => rfl
theorem X_bl {s : Bool} {j : Nat} : PX κ X (.Constant (.bool s) j pos) (xC (.bl s)) := px_const pe_bl fun _ => rfl
theorem X_non {j : Nat} : PX κ X (.Constant .none j pos) (xC .non) := px_const pe_non fun _ => rfl
/-- a global number or text -/
theorem X_glob {x : Str} {d : D} {v : V} {u : Value} (hg : Gl X x) (hm : X.mg x = some u) (r : RelV v u) (q : ∀ H, Rep κ H d v) (hd : (x == ("__debug__" : Str)) = false := by decide) : PX κ X (.Name x pos) (xC d) := px_const (pe_glob hg hm r hd) q
def r2 (K : PySem.W.Frag) (κ : Kap) (g : D → D → Option D) : R2 := fun x y H Q => ∃ (Z : Addr → Prop) (d e : D), ZOk Z H ∧ Rep1 K κ H (hide Z H) d x ∧ Rep1 K κ H (hide Z H) e y ∧ ∃ c, g d e = some c ∧ ∀ v H', Ext H H' → Rep κ (hide Z H') c v → Q v H'
def r2c (κ : Kap) (g : D → D → Option D) : R2 := fun x y H Q => ∃ (Z : Addr → Prop) (d e : D), ZOk Z H ∧ Rep κ (hide Z H) d x ∧ Rep κ (hide Z H) e y ∧ ∃ c, g d e = some c ∧ ∀ v H', Ext H H' → Rep κ (hide Z H') c v → Q v H'
theorem x2_some {g : D → D → Option D} {δ : En} {d : D} (h : x2 g fa fb δ = some d) : ∃ x y, fa δ = some x ∧ fb δ = some y ∧ g x y = some d := by
  obtain ⟨x, h1, h2⟩ := Option.bind_eq_some_iff.mp h
  obtain ⟨y, h3, h4⟩ := Option.bind_eq_some_iff.mp h2
  exact ⟨x, y, h1, h3, h4⟩
theorem t2_of {r : R2} {K : PySem.W.Frag} {g : D → D → Option D} (hr : ∀ x y H Q, r2 K κ g x y H Q → r x y H Q) {σ : L2.St} {H : Hp} {Q : VK} (h : tPX K κ (x2 g fa fb) σ H Q) : tOp r (tPB K κ fa) (tPB K κ fb) σ H Q := by
  obtain ⟨δ, Z, z, E, d, hd, q⟩ := h
  obtain ⟨x, y, h1, h2, h3⟩ := x2_some hd
  exact ⟨δ, Z, z, E, x, h1, fun v H1 e1 r1 => ⟨δ, Z, z.ext e1, E.ext e1, y, h2, fun u H2 e2 r2 => hr _ _ _ _ ⟨Z, x, y, (z.ext e1).ext e2, r1.ext e2, r2, d, h3, fun w H' e3 r3 => q w H' ((e1.trans e2).trans e3) r3⟩⟩⟩
theorem t2c_of {r : R2} {K : PySem.W.Frag} {g : D → D → Option D} (hr : ∀ x y H Q, r2c κ g x y H Q → r x y H Q) {σ : L2.St} {H : Hp} {Q : VK} (h : tPX K κ (x2 g fa fb) σ H Q) : tOp r (tPX K κ fa) (tPX K κ fb) σ H Q := by
  obtain ⟨δ, Z, z, E, d, hd, q⟩ := h
  obtain ⟨x, y, h1, h2, h3⟩ := x2_some hd
  exact ⟨δ, Z, z, E, x, h1, fun v H1 e1 r1 => ⟨δ, Z, z.ext e1, E.ext e1, y, h2, fun u H2 e2 r2 => hr _ _ _ _ ⟨Z, x, y, (z.ext e1).ext e2, Rep.ext e2 r1, r2, d, h3, fun w H' e3 r3 => q w H' ((e1.trans e2).trans e3) r3⟩⟩⟩
theorem X_bin {op : Operator} {r : R2} {g : D → D → Option D} (ho : OpR X (binaryOp op) r) (hr : ∀ x y H Q, r2 X.K κ g x y H Q → r x y H Q) (ha : PB κ X a fa) (hb : PB κ X b fb) : PX κ X (.BinOp a op b pos) (x2 g fa fb) := pe_mono (pe_op ho ha hb) fun _ _ _ h => t2_of hr h
theorem X_binc {op : Operator} {r : R2} {g : D → D → Option D} (ho : OpR X (binaryOp op) r) (hr : ∀ x y H Q, r2c κ g x y H Q → r x y H Q) (ha : PX κ X a fa) (hb : PX κ X b fb) : PX κ X (.BinOp a op b pos) (x2 g fa fb) := pe_mono (pe_op ho ha hb) fun _ _ _ h => t2c_of hr h
theorem X_cmp {op : CmpOp} {r : R2} {g : D → D → Option D} (ho : OpR X (compareOp op) r) (hr : ∀ x y H Q, r2 X.K κ g x y H Q → r x y H Q) (ha : PB κ X a fa) (hb : PB κ X b fb) (hm : behindInMarks op b = false := by first | exact nomark _ | rfl) : PX κ X (.Compare a [op] [b] pos) (x2 g fa fb) := pe_mono (pe_cmpR ho ha hb hm) fun _ _ _ h => t2_of hr h
/-- its bool, as a test -/
theorem tb_of {t : TE} {K : PySem.W.Frag} (hr : ∀ σ H Q, tPX K κ f σ H Q → t σ H Q) {σ : L2.St} {H : Hp} {Q : Bool → Hp → Prop} (h : tPT K κ (tB f) σ H Q) : t σ H fun x H' => ∃ k, x = .bl k ∧ Q k H' := by
  obtain ⟨δ, Z, z, E, c, hd, q⟩ := h
  obtain ⟨d, h1, h2⟩ := Option.bind_eq_some_iff.mp hd
  refine hr _ _ _ ⟨δ, Z, z, E, d, h1, fun v H' e r => ?_⟩
  cases d with
  | bl b => cases h2; exact ⟨_, r, q H' e⟩
  | _ => cases h2
theorem T_cmp {op : CmpOp} {r : R2} {g : D → D → Option D} (ho : OpR X (compareOp op) r) (hr : ∀ x y H Q, r2 X.K κ g x y H Q → r x y H Q) (ha : PB κ X a fa) (hb : PB κ X b fb) (hm : behindInMarks op b = false := by first | exact nomark _ | rfl) : PTx κ X (.Compare a [op] [b] pos) (tB (x2 g fa fb)) := pt_mono (pt_cmpR ho ha hb hm) fun σ H Q h => tb_of (fun _ _ _ h => t2_of hr h) h
/-- an expression whose value is a bool, as a test -/
theorem T_val (h : PX κ X e f) (he : ∀ whole, isTrue e X.env whole = (do let v ← whole; standAt e.pos; holding [v] (truthy v)) := by intro _; rfl) : PTx κ X e (tB f) := pt_mono (pt_val h he) fun σ H Q h => tb_of (fun _ _ _ h => h) h
theorem T_not {t : Tx} (h : PTx κ X a t) : PTx κ X (.UnaryOp .Not a pos) (tNot t) := pt_mono (pt_not h) fun σ H Q h => by
  obtain ⟨δ, Z, z, E, c, hd, q⟩ := h
  obtain ⟨d, h1, h2⟩ := Option.map_eq_some_iff.mp hd
  subst h2
  exact ⟨δ, Z, z, E, d, h1, q⟩
theorem pw_mono {t t' : TT} (h : PW X e t) (w : ∀ σ H Q, t' σ H Q → t σ H Q) : PW X e t' := ⟨fun wh pins s σ H Q I q => h.run wh pins s σ H Q I (w _ _ _ q)⟩
theorem W_and1 {t : Tx} (h : PTx κ X a t) : PWx κ X (.BoolOp .And [a] pos) t := pw_and1 h
theorem W_or1 {t : Tx} (h : PTx κ X a t) : PWx κ X (.BoolOp .Or [a] pos) t := pw_or1 h
theorem W_and {t u : Tx} {rest : List Expr} (h : PTx κ X a t) (h2 : PWx κ X (.BoolOp .And (b :: rest) pos) u) : PWx κ X (.BoolOp .And (a :: b :: rest) pos) (BP.tAnd t u) := pw_mono (pw_and h h2) fun σ H Q h => by
  obtain ⟨δ, Z, z, E, c, hd, q⟩ := h
  obtain ⟨d, h1, h2⟩ := Option.bind_eq_some_iff.mp hd
  refine ⟨δ, Z, z, E, d, h1, fun H' e => ?_⟩
  cases d with
  | true => rw [if_pos rfl]; rw [if_pos rfl] at h2; exact ⟨δ, Z, z.ext e, E.ext e, c, h2, fun H2 e2 => q H2 (e.trans e2)⟩
  | false => rw [if_neg Bool.false_ne_true]; rw [if_neg Bool.false_ne_true] at h2; cases h2; exact q H' e
theorem W_or {t u : Tx} {rest : List Expr} (h : PTx κ X a t) (h2 : PWx κ X (.BoolOp .Or (b :: rest) pos) u) : PWx κ X (.BoolOp .Or (a :: b :: rest) pos) (BP.tOr t u) := pw_mono (pw_or h h2) fun σ H Q h => by
  obtain ⟨δ, Z, z, E, c, hd, q⟩ := h
  obtain ⟨d, h1, h2⟩ := Option.bind_eq_some_iff.mp hd
  refine ⟨δ, Z, z, E, d, h1, fun H' e => ?_⟩
  cases d with
  | true => rw [if_pos rfl]; rw [if_pos rfl] at h2; cases h2; exact q H' e
  | false => rw [if_neg Bool.false_ne_true]; rw [if_neg Bool.false_ne_true] at h2; exact ⟨δ, Z, z.ext e, E.ext e, c, h2, fun H2 e2 => q H2 (e.trans e2)⟩
theorem T_w {t : Tx} (h : PWx κ X e t) : PTx κ X e t := h.pt
/-- a and b, a or b, not a as values -/
theorem X_one {op : BoolOp} (h : PX κ X a f) : PX κ X (.BoolOp op [a] pos) f := pe_one h
theorem X_and {rest : List Expr} (h : PX κ X a fa) (h2 : PX κ X (.BoolOp .And (b :: rest) pos) fb) : PX κ X (.BoolOp .And (a :: b :: rest) pos) (xAnd (tB fa) fb) := pe_mono (pe_and h h2) fun σ H Q h => by
  obtain ⟨δ, Z, z, E, c, hd, q⟩ := h
  obtain ⟨d, h1, h2⟩ := Option.bind_eq_some_iff.mp hd
  obtain ⟨d', h3, h4⟩ := Option.bind_eq_some_iff.mp h1
  refine ⟨δ, Z, z, E, d', h3, fun v H' e r => ?_⟩
  cases d' with
  | bl bb =>
    obtain rfl : bb = d := Option.some.inj h4
    refine ⟨bb, r, ?_⟩
    cases bb with
    | true => rw [if_pos rfl]; rw [if_pos rfl] at h2; exact ⟨δ, Z, z.ext e, E.ext e, c, h2, fun u H2 e2 r2 => q u H2 (e.trans e2) r2⟩
    | false => rw [if_neg Bool.false_ne_true]; rw [if_neg Bool.false_ne_true] at h2; cases h2; exact q _ H' e rfl
  | _ => cases h4
theorem X_or {rest : List Expr} (h : PX κ X a fa) (h2 : PX κ X (.BoolOp .Or (b :: rest) pos) fb) : PX κ X (.BoolOp .Or (a :: b :: rest) pos) (xOr (tB fa) fb) := pe_mono (pe_or h h2) fun σ H Q h => by
  obtain ⟨δ, Z, z, E, c, hd, q⟩ := h
  obtain ⟨d, h1, h2⟩ := Option.bind_eq_some_iff.mp hd
  obtain ⟨d', h3, h4⟩ := Option.bind_eq_some_iff.mp h1
  refine ⟨δ, Z, z, E, d', h3, fun v H' e r => ?_⟩
  cases d' with
  | bl bb =>
    obtain rfl : bb = d := Option.some.inj h4
    refine ⟨bb, r, ?_⟩
    cases bb with
    | true => rw [if_pos rfl]; rw [if_pos rfl] at h2; cases h2; exact q _ H' e rfl
    | false => rw [if_neg Bool.false_ne_true]; rw [if_neg Bool.false_ne_true] at h2; exact ⟨δ, Z, z.ext e, E.ext e, c, h2, fun u H2 e2 r2 => q u H2 (e.trans e2) r2⟩
  | _ => cases h4
theorem X_not (h : PX κ X a fa) : PX κ X (.UnaryOp .Not a pos) (xT (tNot (tB fa))) := pe_mono (pe_not h) fun σ H Q h => by
  obtain ⟨δ, Z, z, E, c, hd, q⟩ := h
  obtain ⟨d, h1, h2⟩ := Option.map_eq_some_iff.mp hd
  obtain ⟨d1, h3, h4⟩ := Option.map_eq_some_iff.mp h1
  obtain ⟨d', h5, h6⟩ := Option.bind_eq_some_iff.mp h3
  refine ⟨δ, Z, z, E, d', h5, fun v H' e r => ?_⟩
  cases d' with
  | bl bb => obtain rfl : bb = d1 := Option.some.inj h6
             subst h4 h2
             exact ⟨bb, r, q _ H' e rfl⟩
  | _ => cases h6
theorem X_if {t : Tx} (hc : PTx κ X c t) (ha : PX κ X a fa) (hb : PX κ X b fb) : PX κ X (.IfExp c a b pos) (xIf t fa fb) := pe_mono (pe_ifExp hc ha hb) fun σ H Q h => by
  obtain ⟨δ, Z, z, E, c, hd, q⟩ := h
  obtain ⟨d, h1, h2⟩ := Option.bind_eq_some_iff.mp hd
  refine ⟨δ, Z, z, E, d, h1, fun H' e => ?_⟩
  cases d with
  | true => rw [if_pos rfl]; rw [if_pos rfl] at h2; exact ⟨δ, Z, z.ext e, E.ext e, c, h2, fun u H2 e2 r2 => q u H2 (e.trans e2) r2⟩
  | false => rw [if_neg Bool.false_ne_true]; rw [if_neg Bool.false_ne_true] at h2; exact ⟨δ, Z, z.ext e, E.ext e, c, h2, fun u H2 e2 r2 => q u H2 (e.trans e2) r2⟩
theorem r2_ii {K : PySem.W.Frag} {g : D → D → Option D} {C : Int → Int → Prop} {h : Int → Int → V} (hg : ∀ d e c, g d e = some c → ∃ i j, d = .int i ∧ e = .int j ∧ C i j ∧ ∀ H, Rep κ H c (h i j)) : ∀ x y H Q, r2 K κ g x y H Q → rI C h x y H Q := fun x y H Q ⟨Z, d, e, z, r1, r2, c, hc, q⟩ => by
  obtain ⟨i, j, rfl, rfl, hC, r⟩ := hg d e c hc
  exact ⟨i, j, r1, r2, hC, q _ H (.refl H) (r _)⟩
theorem r2_ii0 {K : PySem.W.Frag} {g : D → D → Option D} {h : Int → Int → V} (hg : ∀ d e c, g d e = some c → ∃ i j, d = .int i ∧ e = .int j ∧ ∀ H, Rep κ H c (h i j)) : ∀ x y H Q, r2 K κ g x y H Q → rI0 h x y H Q := fun x y H Q ⟨Z, d, e, z, r1, r2, c, hc, q⟩ => by
  obtain ⟨i, j, rfl, rfl, r⟩ := hg d e c hc
  exact ⟨i, j, r1, r2, q _ H (.refl H) (r _)⟩
theorem X_add (ha : PB κ X a fa) (hb : PB κ X b fb) : PX κ X (.BinOp a .Add b pos) (x2 oAdd fa fb) := X_bin op_add (r2_ii0 fun d e c h => by cases d <;> cases e <;> simp only [oAdd] at h <;> first | (cases h; done) | (cases h; exact ⟨_, _, rfl, rfl, fun _ => rfl⟩)) ha hb
theorem X_sub (ha : PB κ X a fa) (hb : PB κ X b fb) : PX κ X (.BinOp a .Sub b pos) (x2 oSub fa fb) := X_bin op_sub (r2_ii0 fun d e c h => by cases d <;> cases e <;> simp only [oSub] at h <;> first | (cases h; done) | (cases h; exact ⟨_, _, rfl, rfl, fun _ => rfl⟩)) ha hb
theorem X_band (ha : PB κ X a fa) (hb : PB κ X b fb) : PX κ X (.BinOp a .BitAnd b pos) (x2 oBand fa fb) := X_bin op_and (r2_ii0 fun d e c h => by cases d <;> cases e <;> simp only [oBand] at h <;> first | (cases h; done) | (cases h; exact ⟨_, _, rfl, rfl, fun _ => rfl⟩)) ha hb
theorem X_mul (ha : PB κ X a fa) (hb : PB κ X b fb) : PX κ X (.BinOp a .Mult b pos) (x2 oMul fa fb) := X_bin op_mul (r2_ii fun d e c h => by
  cases d <;> cases e <;> simp only [oMul] at h <;> first | (cases h; done) | skip
  split at h
  · next q => cases h; exact ⟨_, _, rfl, rfl, q, fun _ => rfl⟩
  · cases h) ha hb
theorem X_div (ha : PB κ X a fa) (hb : PB κ X b fb) : PX κ X (.BinOp a .FloorDiv b pos) (x2 oDiv fa fb) := X_bin op_fdiv (r2_ii fun d e c h => by
  cases d <;> cases e <;> simp only [oDiv] at h <;> first | (cases h; done) | skip
  split at h
  · next q => cases h; exact ⟨_, _, rfl, rfl, q, fun _ => rfl⟩
  · cases h) ha hb
theorem X_mod (ha : PB κ X a fa) (hb : PB κ X b fb) : PX κ X (.BinOp a .Mod b pos) (x2 oMod fa fb) := X_bin op_mod (r2_ii fun d e c h => by
  cases d <;> cases e <;> simp only [oMod] at h <;> first | (cases h; done) | skip
  split at h
  · next q => cases h; exact ⟨_, _, rfl, rfl, q, fun _ => rfl⟩
  · cases h) ha hb
theorem X_pow (ha : PB κ X a fa) (hb : PB κ X b fb) : PX κ X (.BinOp a .Pow b pos) (x2 oPow fa fb) := X_bin op_pow (r2_ii fun d e c h => by
  cases d <;> cases e <;> simp only [oPow] at h <;> first | (cases h; done) | skip
  split at h
  · next q => cases h; exact ⟨_, _, rfl, rfl, q, fun _ => rfl⟩
  · cases h) ha hb
theorem X_shr (ha : PB κ X a fa) (hb : PB κ X b fb) : PX κ X (.BinOp a .RShift b pos) (x2 oShr fa fb) := X_bin op_shr (r2_ii fun d e c h => by
  cases d <;> cases e <;> simp only [oShr] at h <;> first | (cases h; done) | skip
  split at h
  · next q => cases h; exact ⟨_, _, rfl, rfl, q, fun _ => rfl⟩
  · cases h) ha hb
theorem lt_rd {K : PySem.W.Frag} : ∀ x y H Q, r2 K κ oLt x y H Q → rI0 (fun i j => V.bl (decide (i < j))) x y H Q := r2_ii0 fun d e c h => by cases d <;> cases e <;> simp only [oLt] at h <;> first | (cases h; done) | (cases h; exact ⟨_, _, rfl, rfl, fun _ => rfl⟩)
theorem le_rd {K : PySem.W.Frag} : ∀ x y H Q, r2 K κ oLe x y H Q → rI0 (fun i j => V.bl (decide (i ≤ j))) x y H Q := r2_ii0 fun d e c h => by cases d <;> cases e <;> simp only [oLe] at h <;> first | (cases h; done) | (cases h; exact ⟨_, _, rfl, rfl, fun _ => rfl⟩)
theorem gt_rd {K : PySem.W.Frag} : ∀ x y H Q, r2 K κ oGt x y H Q → rI0 (fun i j => V.bl (decide (j < i))) x y H Q := r2_ii0 fun d e c h => by cases d <;> cases e <;> simp only [oGt] at h <;> first | (cases h; done) | (cases h; exact ⟨_, _, rfl, rfl, fun _ => rfl⟩)
theorem ge_rd {K : PySem.W.Frag} : ∀ x y H Q, r2 K κ oGe x y H Q → rI0 (fun i j => V.bl (decide (j ≤ i))) x y H Q := r2_ii0 fun d e c h => by cases d <;> cases e <;> simp only [oGe] at h <;> first | (cases h; done) | (cases h; exact ⟨_, _, rfl, rfl, fun _ => rfl⟩)
end
end BP
namespace BP
open PySem L2
def pyOf : Nat → D → PyData
  | _, .non => .none
  | _, .int i => .int i
  | _, .str s => .str s
  | n + 1, .tup ds => .tuple (ds.map (pyOf n))
  | n + 1, .lst ds => .list (ds.map (pyOf n))
  | _, _ => .none
section
variable {K : PySem.W.Frag} {κ : Kap} {H : Hp}
theorem dps_of {n : Nat} (ih : ∀ d v, plainD n d = true → Rep κ H d v → Dp K H v (pyOf n d)) : ∀ (ds : List D) (vs : List V), ds.all (plainD n) = true → Reps κ H ds vs → DpAll K H vs (ds.map (pyOf n))
  | [], _, _, h => by subst h; exact .nil
  | d :: ds, _, f, ⟨v, r, a, b, c⟩ => by
    subst a
    rw [List.all_cons, Bool.and_eq_true] at f
    exact .cons (ih d v f.1 b) (dps_of ih ds r f.2 c)
theorem dp_of : ∀ (n : Nat) (d : D) (v : V), plainD n d = true → Rep κ H d v → Dp K H v (pyOf n d) := by
  intro n
  induction n with
  | zero =>
    intro d v f r
    cases d with
    | non => cases r; exact .non
    | int i => cases r; exact .int i
    | str s => cases r; exact .str s
    | _ => simp [plainD] at f
  | succ n ih =>
    intro d v f r
    cases d with
    | non => cases r; exact .non
    | int i => cases r; exact .int i
    | str s => cases r; exact .str s
    | tup ds => obtain ⟨p, vs, rfl, h, q⟩ := r; exact .tup (SqT.of h) (dps_of ih ds vs (by simpa [plainD] using f) q)
    | lst ds => obtain ⟨p, vs, rfl, h, q⟩ := r; exact .lst (SqL.of h) (dps_of ih ds vs (by simpa [plainD] using f) q)
    | _ => simp [plainD] at f
theorem dp1_of {R : Hp} (e : Le H R) (n : Nat) {d : D} {v : V} (f : plainD n d = true) (r : Rep1 K κ R H d v) : Dp K R v (pyOf n d) := by
  cases d with
  | non => exact dp_of (κ := κ) n .non v f r
  | int i => exact dp_of (κ := κ) n (.int i) v f r
  | str s => exact dp_of (κ := κ) n (.str s) v f r
  | tup ds =>
    cases n with
    | zero => simp [plainD] at f
    | succ n => obtain ⟨p, vs, rfl, h, q⟩ := r; exact .tup (SqT.of h) (dps_of (fun d v => dp_of n d v) ds vs (by simpa [plainD] using f) (Reps.le e _ _ q))
  | lst ds =>
    cases n with
    | zero => simp [plainD] at f
    | succ n => obtain ⟨p, vs, rfl, h, q⟩ := r; exact .lst h (dps_of (fun d v => dp_of n d v) ds vs (by simpa [plainD] using f) (Reps.le e _ _ q))
  | _ => cases n <;> simp [plainD] at f
end
theorem eqvAll_of {n : Nat} (ih : ∀ d e, plainD n d = true → plainD n e = true → PyData.eqv (pyOf n d) (pyOf n e) = decide (d = e)) : ∀ ds es : List D, ds.all (plainD n) = true → es.all (plainD n) = true → PyData.eqvAll (ds.map (pyOf n)) (es.map (pyOf n)) = decide (ds = es)
  | [], [], _, _ => by simp [PyData.eqvAll]
  | [], _ :: _, _, _ => by simp [PyData.eqvAll]
  | _ :: _, [], _, _ => by simp [PyData.eqvAll]
  | d :: ds, e :: es, f, g => by
    rw [List.all_cons, Bool.and_eq_true] at f g
    simp only [List.map_cons, PyData.eqvAll, ih d e f.1 g.1, eqvAll_of ih ds es f.2 g.2, List.cons.injEq]
    rw [Bool.decide_and]
theorem eqv_of : ∀ (n : Nat) (d e : D), plainD n d = true → plainD n e = true → PyData.eqv (pyOf n d) (pyOf n e) = decide (d = e) := by
  intro n
  induction n with
  | zero => intro d e f g; cases d <;> cases e <;> simp_all [plainD, pyOf, PyData.eqv] <;> rfl
  | succ n ih =>
    intro d e f g
    have hl := eqvAll_of ih
    cases d <;> cases e <;> first | (exfalso; simp [plainD] at f; done) | (exfalso; simp [plainD] at g; done) | (simp only [pyOf, PyData.eqv, reduceCtorEq, decide_false]; done) | skip
    · simp [pyOf, PyData.eqv]
    · simp only [pyOf, PyData.eqv, D.int.injEq]; rw [Bool.eq_iff_iff]; simp
    · simp only [pyOf, PyData.eqv, D.str.injEq]; rw [Bool.eq_iff_iff]; simp
    · simp only [plainD] at f g
      simp only [pyOf, PyData.eqv, D.tup.injEq, hl _ _ f g]
    · simp only [plainD] at f g
      simp only [pyOf, PyData.eqv, D.lst.injEq, hl _ _ f g]
theorem canLayAll_of {n : Nat} (ih : ∀ d, plainD n d = true → (pyOf n d).canLay0 = true) : ∀ ds : List D, ds.all (plainD n) = true → PyData.canLayAll0 (ds.map (pyOf n)) = true
  | [], _ => rfl
  | d :: ds, f => by
    rw [List.all_cons, Bool.and_eq_true] at f
    simp only [List.map_cons, PyData.canLayAll0, ih d f.1, canLayAll_of ih ds f.2, Bool.and_self]
theorem canLay_of : ∀ (n : Nat) (d : D), plainD n d = true → (pyOf n d).canLay0 = true := by
  intro n
  induction n with
  | zero => intro d f; cases d <;> simp_all [plainD, pyOf, PyData.canLay0, PyData.strOk]
  | succ n ih =>
    intro d f
    cases d <;> first | (exfalso; simp [plainD] at f; done) | skip
    all_goals simp only [plainD] at f
    all_goals simp only [pyOf, PyData.canLay0]
    · unfold PyData.strOk; exact f
    · exact canLayAll_of ih _ f
    · exact canLayAll_of ih _ f
theorem depthAll_of {n : Nat} (ih : ∀ d, (pyOf n d).depth ≤ n) : ∀ ds : List D, PyData.depthAll (ds.map (pyOf n)) ≤ n
  | [] => Nat.zero_le _
  | d :: ds => by
    simp only [List.map_cons, PyData.depthAll]
    exact Nat.max_le.mpr ⟨ih d, depthAll_of ih ds⟩
theorem depth_of : ∀ (n : Nat) (d : D), (pyOf n d).depth ≤ n := by
  intro n
  induction n with
  | zero => intro d; cases d <;> simp [pyOf, PyData.depth]
  | succ n ih =>
    intro d
    cases d <;> simp only [pyOf, PyData.depth] <;> first | exact Nat.zero_le _ | exact Nat.succ_le_succ (depthAll_of ih _)
theorem shaped_of {n : Nat} (hn : n ≤ 64) {d : D} (f : plainD n d = true) : SeqAt.shaped (pyOf n d) = true := by
  unfold SeqAt.shaped
  rw [canLay_of n d f, decide_eq_true (Nat.le_trans (depth_of n d) hn)]
  rfl
section
variable {κ : Kap} {X : Cx} {a b c e : Expr} {es : List Expr} {f fa fb fc : Ex} {g gr : Sx} {pos p apos : Pos} {k : Nat}
theorem eq_rd {K : PySem.W.Frag} : ∀ x y H Q, r2 K κ oEq x y H Q → rEqD K x y H Q := fun x y H Q ⟨Z, d, e, z, r1, r2, c, hc, q⟩ => by
  unfold oEq at hc
  split at hc
  · next h =>
    cases hc
    refine ⟨_, _, dp1_of (hide_le Z H) 8 h.1 r1, dp1_of (hide_le Z H) 8 h.2 r2, shaped_of (by decide) h.1, shaped_of (by decide) h.2, ?_⟩
    rw [eqv_of 8 d e h.1 h.2]
    exact q _ H (.refl H) rfl
  · cases hc
theorem ne_rd {K : PySem.W.Frag} : ∀ x y H Q, r2 K κ oNe x y H Q → rNeD K x y H Q := fun x y H Q ⟨Z, d, e, z, r1, r2, c, hc, q⟩ => by
  unfold oNe at hc
  split at hc
  · next h =>
    cases hc
    refine ⟨_, _, dp1_of (hide_le Z H) 8 h.1 r1, dp1_of (hide_le Z H) 8 h.2 r2, shaped_of (by decide) h.1, shaped_of (by decide) h.2, ?_⟩
    rw [eqv_of 8 d e h.1 h.2]
    exact q _ H (.refl H) rfl
  · cases hc
theorem rep_non {κ : Kap} {K : PySem.W.Frag} {R H : Hp} {d : D} {v : V} (r : Rep1 K κ R H d v) : decide (v = .non) = decide (d = .non) := by
  cases d with
  | non => cases r; simp
  | bl _ => cases r; simp
  | int _ => cases r; simp
  | str _ => cases r; simp
  | tup _ => obtain ⟨_, _, rfl, _⟩ := r; simp
  | lst _ => obtain ⟨_, _, rfl, _⟩ := r; simp
  | dct _ => obtain ⟨_, _, rfl, _⟩ := r; simp
  | dtt _ => obtain ⟨_, _, rfl, _⟩ := r; simp
  | obj _ _ => obtain ⟨_, _, _, rfl, _⟩ := r; simp
theorem X_isN (ha : PB κ X a fa) : PX κ X (.Compare a [.Is] [.Constant .none k p] pos) (x1 oIsN fa) := pe_mono (pe_cmp (pc_isN ha)) fun σ H Q ⟨δ, Z, z, E, d, hd, q⟩ => by
  obtain ⟨x, h1, h2⟩ := Option.bind_eq_some_iff.mp hd
  cases h2
  exact ⟨δ, Z, z, E, x, h1, fun v H' e r => by dsimp only; rw [rep_non r]; exact q _ H' e rfl⟩
theorem X_notN (ha : PB κ X a fa) : PX κ X (.Compare a [.IsNot] [.Constant .none k p] pos) (x1 oNotN fa) := pe_mono (pe_cmp (pc_notN ha)) fun σ H Q ⟨δ, Z, z, E, d, hd, q⟩ => by
  obtain ⟨x, h1, h2⟩ := Option.bind_eq_some_iff.mp hd
  cases h2
  exact ⟨δ, Z, z, E, x, h1, fun v H' e r => by dsimp only; rw [rep_non r]; exact q _ H' e rfl⟩
theorem T_isN (ha : PB κ X a fa) : PTx κ X (.Compare a [.Is] [.Constant .none k p] pos) (tB (x1 oIsN fa)) := pt_mono (pt_cmp (pc_isN ha)) fun σ H Q h => tb_of (fun σ H Q ⟨δ, Z, z, E, d, hd, q⟩ => by
  obtain ⟨x, h1, h2⟩ := Option.bind_eq_some_iff.mp hd
  cases h2
  exact ⟨δ, Z, z, E, x, h1, fun v H' e r => by dsimp only; rw [rep_non r]; exact q _ H' e rfl⟩) h
theorem T_notN (ha : PB κ X a fa) : PTx κ X (.Compare a [.IsNot] [.Constant .none k p] pos) (tB (x1 oNotN fa)) := pt_mono (pt_cmp (pc_notN ha)) fun σ H Q h => tb_of (fun σ H Q ⟨δ, Z, z, E, d, hd, q⟩ => by
  obtain ⟨x, h1, h2⟩ := Option.bind_eq_some_iff.mp hd
  cases h2
  exact ⟨δ, Z, z, E, x, h1, fun v H' e r => by dsimp only; rw [rep_non r]; exact q _ H' e rfl⟩) h
def keyOf : D → Key
  | .int i => .inl i
  | .str s => .inr s
  | _ => .inl 0
theorem keyOf_ok : ∀ {d : D}, keyOk d = true → d = keyD (keyOf d)
  | .int _, _ => rfl
  | .str _, _ => rfl
  | .non, h => by simp [keyOk] at h
  | .bl _, h => by simp [keyOk] at h
  | .tup _, h => by simp [keyOk] at h
  | .lst _, h => by simp [keyOk] at h
  | .dct _, h => by simp [keyOk] at h
  | .dtt _, h => by simp [keyOk] at h
  | .obj _ _, h => by simp [keyOk] at h
theorem keyD_ok (k : Key) : keyOk (keyD k) = true := by cases k <;> rfl
theorem rep_key {κ : Kap} {H : Hp} {k : Key} {v : V} (r : Rep κ H (keyD k) v) : v = kV k := by cases k <;> exact r
theorem key_rep {κ : Kap} {H : Hp} (k : Key) : Rep κ H (keyD k) (kV k) := by cases k <;> rfl
theorem rep1_key {κ : Kap} {K : PySem.W.Frag} {R H : Hp} {d : D} {v : V} (h : keyOk d = true) (r : Rep1 K κ R H d v) : v = kV (keyOf d) ∧ d = keyD (keyOf d) := by
  have e := keyOf_ok h
  refine ⟨?_, e⟩
  cases d <;> first | exact r | (simp [keyOk] at h)
theorem reps_keys {κ : Kap} {H : Hp} : ∀ {ds : List D} {vs : List V}, ds.all keyOk = true → Reps κ H ds vs → vs = (ds.map keyOf).map kV ∧ ds = (ds.map keyOf).map keyD
  | [], _, _, h => by subst h; exact ⟨rfl, rfl⟩
  | d :: ds, _, f, ⟨v, r, a, b, c⟩ => by
    subst a
    rw [List.all_cons, Bool.and_eq_true] at f
    have e := keyOf_ok f.1
    obtain ⟨h1, h2⟩ := reps_keys f.2 c
    rw [e] at b
    have h3 := rep_key b
    refine ⟨by rw [h3, h1]; simp, ?_⟩
    rw [List.map_cons, List.map_cons, ← e, ← h2]
theorem kV_inj : ∀ {a b : Key}, kV a = kV b → a = b
  | .inl _, .inl _, h => by injection h with h; rw [h]
  | .inr _, .inr _, h => by injection h with h; rw [h]
  | .inl _, .inr _, h => nomatch h
  | .inr _, .inl _, h => nomatch h
theorem eqV_key (a b : Key) : eqV (kV a) (kV b) = decide (a = b) := by
  cases a <;> cases b <;> simp [kV, eqV] <;> (rw [Bool.eq_iff_iff]; simp)
theorem flat_key (a : Key) : flatV (kV a) = true := by cases a <;> rfl
theorem inV_key (x : Key) (ys : List Key) : inV (kV x) (ys.map kV) = decide (keyD x ∈ ys.map keyD) := by
  unfold inV
  rw [List.any_map]
  rw [Bool.eq_iff_iff]
  simp only [List.any_eq_true, Function.comp, eqV_key, decide_eq_true_eq, List.mem_map]
  constructor
  · rintro ⟨y, hy, rfl⟩; exact ⟨y, hy, rfl⟩
  · rintro ⟨y, hy, e⟩; exact ⟨y, hy, keyD_inj e⟩
theorem dLook_K {κ : Kap} {H : Hp} (k : Key) : ∀ {kvs : List (D × D)} {l : List (Key × V)}, RepK κ H kvs l → (∀ d, dLook (keyD k) kvs = some d → ∃ v, valV l k = some v ∧ Rep κ H d v) ∧ (dLook (keyD k) kvs).isSome = (valV l k).isSome
  | [], l, h => by subst h; exact ⟨fun d e => (by cases e), rfl⟩
  | (a, x) :: r, l, ⟨k', v, t, e1, e2, h3, h4⟩ => by
    subst e1 e2
    by_cases hk : k' = k
    · subst hk
      rw [valV_pos rfl]
      simp only [dLook, if_pos]
      exact ⟨fun d e => (by cases e; exact ⟨v, rfl, h3⟩), rfl⟩
    · rw [valV_neg hk]
      have : ¬ keyD k' = keyD k := fun e => hk (keyD_inj e)
      simp only [dLook, if_neg this]
      exact dLook_K k h4
theorem dLook_T {κ : Kap} {H : Hp} (k : List Key) : ∀ {kvs : List (D × D)} {l : List (List Key × V)}, RepT κ H kvs l → (∀ d, dLook (.tup (k.map keyD)) kvs = some d → ∃ v, valV l k = some v ∧ Rep κ H d v) ∧ (dLook (.tup (k.map keyD)) kvs).isSome = (valV l k).isSome
  | [], l, h => by subst h; exact ⟨fun d e => (by cases e), rfl⟩
  | (a, x) :: r, l, ⟨k', v, t, e1, e2, h3, h4⟩ => by
    subst e1 e2
    by_cases hk : k' = k
    · subst hk
      rw [valV_pos rfl]
      simp only [dLook, if_pos]
      exact ⟨fun d e => (by cases e; exact ⟨v, rfl, h3⟩), rfl⟩
    · rw [valV_neg hk]
      have : ¬ D.tup (k'.map keyD) = D.tup (k.map keyD) := fun e => hk (keysD_inj (by injection e))
      simp only [dLook, if_neg this]
      exact dLook_T k h4
theorem repK_keys {κ : Kap} {H : Hp} : ∀ {kvs : List (D × D)} {l : List (Key × V)}, RepK κ H kvs l → kvs.all (fun p => keyOk p.1) = true
  | [], _, _ => rfl
  | (a, x) :: r, l, ⟨k', v, t, e1, e2, h3, h4⟩ => by
    subst e2
    rw [List.all_cons, keyD_ok, repK_keys h4]; rfl
theorem repT_keys {κ : Kap} {H : Hp} : ∀ {kvs : List (D × D)} {l : List (List Key × V)}, RepT κ H kvs l → kvs.all (fun p => keyTOk p.1) = true
  | [], _, _ => rfl
  | (a, x) :: r, l, ⟨k', v, t, e1, e2, h3, h4⟩ => by
    subst e2
    rw [List.all_cons, repT_keys h4, Bool.and_true]
    simp only [keyTOk, List.all_map, List.all_eq_true]
    exact fun k _ => keyD_ok k
end
end BP
namespace BP
open PySem L2
section
variable {κ : Kap} {X : Cx} {a b c e : Expr} {es : List Expr} {f fa fb fc : Ex} {g gr : Sx} {pos p apos : Pos} {k : Nat}
theorem op_inDict (hu : X.A.units + 1 < cLine) : OpR X (compareOp .In) (fun x y H Q => ∃ a o, y = .ref a ∧ DGet H a x o ∧ Q (.bl o.isSome) H) := by
  intro pins s σ H x y v u Q I rx ry h
  obtain ⟨a, o, rfl, g, q⟩ := h
  cases ry
  exact d_in hu I g rx fun s' I' => ⟨.bl _, H, I', rfl, q⟩
theorem op_notInDict (hu : X.A.units + 1 < cLine) : OpR X (compareOp .NotIn) (fun x y H Q => ∃ a o, y = .ref a ∧ DGet H a x o ∧ Q (.bl (!o.isSome)) H) := by
  intro pins s σ H x y v u Q I rx ry h
  obtain ⟨a, o, rfl, g, q⟩ := h
  cases ry
  exact d_notIn hu I g rx fun s' I' => ⟨.bl _, H, I', rfl, q⟩
/-- the dict's answer to a key -/
theorem dget_of {K : PySem.W.Frag} {R H : Hp} {kvs : List (D × D)} {d : D} {x y : V} (h : keyOk d = true) (rx : Rep1 K κ R H d x) (ry : Rep1 K κ R H (.dct kvs) y) :
    ∃ a o, y = .ref a ∧ DGet R a x o ∧ (∀ c, dLook d kvs = some c → ∃ v, o = some v ∧ Rep κ H c v) ∧ (dLook d kvs).isSome = o.isSome := by
  obtain ⟨q, l, rfl, hl, rl⟩ := ry
  obtain ⟨e1, e2⟩ := rep1_key h rx
  have := dLook_K (keyOf d) rl
  rw [← e2] at this
  exact ⟨q, _, rfl, .inl ⟨l, keyOf d, hl, e1, rfl⟩, this.1, this.2⟩
theorem dgetT_of {K : PySem.W.Frag} {R H : Hp} {kvs : List (D × D)} {d : D} {x y : V} (h : keyTOk d = true) (rx : Rep1 K κ R H d x) (ry : Rep1 K κ R H (.dtt kvs) y) :
    ∃ a o, y = .ref a ∧ DGet R a x o ∧ (∀ c, dLook d kvs = some c → ∃ v, o = some v ∧ Rep κ H c v) ∧ (dLook d kvs).isSome = o.isSome := by
  obtain ⟨q, l, rfl, hl, rl⟩ := ry
  cases d with
  | tup ds =>
    obtain ⟨b, vs, rfl, hb, rs⟩ := rx
    obtain ⟨e1, e2⟩ := reps_keys (by simpa [keyTOk] using h) rs
    subst e1
    have := dLook_T (ds.map keyOf) rl
    rw [← e2] at this
    exact ⟨q, _, rfl, .inr ⟨l, _, b, hl, rfl, hb, rfl⟩, this.1, this.2⟩
  | _ => simp [keyTOk] at h
theorem seq_of {K : PySem.W.Frag} {R H : Hp} {ds : List D} {y : V} (h : Rep1 K κ R H (.lst ds) y ∨ Rep1 K κ R H (.tup ds) y) : ∃ p vs, y = .ref p ∧ (SqL K R p vs ∨ SqT K R p vs) ∧ Reps κ H ds vs := by
  rcases h with ⟨p, vs, rfl, h, q⟩ | ⟨p, vs, rfl, h, q⟩
  · exact ⟨p, vs, rfl, .inl h, q⟩
  · exact ⟨p, vs, rfl, .inr (SqT.of h), q⟩
theorem in_rd {K : PySem.W.Frag} {neg : Bool} {g : D → D → Option D} (hg : ∀ x y c, g x y = some c → ∃ b, oIn x y = some (.bl b) ∧ c = .bl (if neg then !b else b)) : ∀ x y H Q, r2 K κ g x y H Q → rIn K neg x y H Q ∨ (∃ a o, y = .ref a ∧ DGet H a x o ∧ Q (.bl (if neg then !o.isSome else o.isSome)) H) := fun x y H Q ⟨Z, d, e, z, r1, r2, c, hc, q⟩ => by
  obtain ⟨b, h1, h2⟩ := hg d e c hc
  subst h2
  have q' := q _ H (.refl H) rfl
  have seq : ∀ ds, (Rep1 K κ H (hide Z H) (.lst ds) y ∨ Rep1 K κ H (hide Z H) (.tup ds) y) → (if keyOk d = true ∧ ds.all keyOk = true then some (D.bl (decide (d ∈ ds))) else none) = some (.bl b) → rIn K neg x y H Q := fun ds r h1 => by
    split at h1
    · next k =>
      cases h1
      obtain ⟨p, vs, rfl, sq, rs⟩ := seq_of r
      obtain ⟨e1, e2⟩ := rep1_key k.1 r1
      obtain ⟨e3, e4⟩ := reps_keys k.2 rs
      subst e1 e3
      refine ⟨p, _, rfl, sq, flat_key _, by simp [flat_key], ?_⟩
      rw [inV_key, ← e2, ← e4]
      exact q'
    · cases h1
  unfold oIn at h1
  cases e with
  | lst ds => exact .inl (seq ds (.inl r2) h1)
  | tup ds => exact .inl (seq ds (.inr r2) h1)
  | dct kvs =>
    dsimp only at h1
    split at h1
    · next k =>
      cases h1
      obtain ⟨a, o, rfl, g, _, ho⟩ := dget_of k r1 r2
      exact .inr ⟨a, o, rfl, g, by rw [← ho]; exact q'⟩
    · cases h1
  | dtt kvs =>
    dsimp only at h1
    split at h1
    · next k =>
      cases h1
      obtain ⟨a, o, rfl, g, _, ho⟩ := dgetT_of k r1 r2
      exact .inr ⟨a, o, rfl, g, by rw [← ho]; exact q'⟩
    · cases h1
  | _ => cases h1
theorem in_rd0 {K : PySem.W.Frag} : ∀ x y H Q, r2 K κ oIn x y H Q → rIn K false x y H Q ∨ (∃ a o, y = .ref a ∧ DGet H a x o ∧ Q (.bl o.isSome) H) := fun x y H Q h => in_rd (neg := false) (g := oIn) (fun x y c e => by
  have : ∃ b, c = D.bl b := by
    unfold oIn at e
    cases y <;> dsimp only at e <;> first | (cases e; done) | (split at e <;> first | (cases e; done) | (cases e; exact ⟨_, rfl⟩))
  obtain ⟨b, rfl⟩ := this
  exact ⟨b, e, rfl⟩) x y H Q h
theorem notIn_rd0 {K : PySem.W.Frag} : ∀ x y H Q, r2 K κ oNotIn x y H Q → rIn K true x y H Q ∨ (∃ a o, y = .ref a ∧ DGet H a x o ∧ Q (.bl (!o.isSome)) H) := fun x y H Q h => in_rd (neg := true) (g := oNotIn) (fun x y c e => by
  obtain ⟨d, h1, h2⟩ := Option.bind_eq_some_iff.mp e
  cases d with
  | bl b => cases h2; exact ⟨b, h1, rfl⟩
  | _ => cases h2) x y H Q h
theorem or_in (kn : Kn X k) : OpR X (compareOp .In) (fun x y H Q => rIn X.K false x y H Q ∨ (∃ a o, y = .ref a ∧ DGet H a x o ∧ Q (.bl o.isSome) H)) := OpR.or op_in_seq (op_inDict (hu_of kn.room))
theorem or_notIn (kn : Kn X k) : OpR X (compareOp .NotIn) (fun x y H Q => rIn X.K true x y H Q ∨ (∃ a o, y = .ref a ∧ DGet H a x o ∧ Q (.bl (!o.isSome)) H)) := OpR.or op_notIn_seq (op_notInDict (hu_of kn.room))
theorem inS_rd {K : PySem.W.Frag} : ∀ x y H Q, r2 K κ oInS x y H Q → (∃ (c : Nat) (z : Str), x = .str ⟨#[c]⟩ ∧ y = .str z ∧ Q (.bl (decide (c ∈ z.cps.toList))) H) := fun x y H Q ⟨Z, d, e, z, r1, r2, c, hc, q⟩ => by
  cases d <;> cases e <;> simp only [oInS] at hc <;> first | (cases hc; done) | skip
  rename_i s t
  split at hc
  · next ch hs =>
    cases hc
    refine ⟨ch, t, ?_, r2, q _ H (.refl H) rfl⟩
    have : s = ⟨#[ch]⟩ := by
      cases s with
      | mk cps =>
        congr 1
        exact Array.toList_inj.mp (by simpa using hs)
    rw [← this]
    exact r1
  · cases hc
theorem ix_rd {K : PySem.W.Frag} {x y : V} {H : Hp} {Q : VK} {Z : Addr → Prop} {d e c : D} (r1 : Rep1 K κ H (hide Z H) d x) (r2 : Rep1 K κ H (hide Z H) e y) (hc : oIx d e = some c) (q : ∀ v, Rep κ (hide Z H) c v → Q v H) : rIxL K x y H Q ∨ rIxT K x y H Q := by
  cases d <;> cases e <;> simp only [oIx] at hc <;> first | (cases hc; done) | skip
  · obtain ⟨j, h1, h2⟩ := Option.bind_eq_some_iff.mp hc
    obtain ⟨p, vs, rfl, hp, rs⟩ := r1
    obtain ⟨v, h3, h4⟩ := rs.get h2
    refine .inr ⟨p, vs, _, v, rfl, r2, SqT.of hp, ?_, q v h4⟩
    unfold atI
    rw [rs.length]
    exact Option.bind_eq_some_iff.mpr ⟨j, h1, h3⟩
  · obtain ⟨j, h1, h2⟩ := Option.bind_eq_some_iff.mp hc
    obtain ⟨p, vs, rfl, hp, rs⟩ := r1
    obtain ⟨v, h3, h4⟩ := rs.get h2
    refine .inl ⟨p, vs, _, v, rfl, r2, hp, ?_, q v h4⟩
    unfold atI
    rw [rs.length]
    exact Option.bind_eq_some_iff.mpr ⟨j, h1, h3⟩
theorem X_ix (ha : PB κ X a fa) (hb : PX κ X b fb) (hs : PlainIx b := by intro _ _; rfl) : PX κ X (.Subscript a b pos) (x2 oIx fa fb) := pe_mono (pe_ix (ix_list.or ix_tup) ha (PB.of hb) hs) fun σ H Q h => t2_of (fun x y H Q ⟨Z, d, e, z, r1, r2, c, hc, q⟩ => ix_rd r1 r2 hc fun v r => q v H (.refl H) r) h
/-- d[k] -/
theorem X_get (kn : Kn X k) (ha : PB κ X a fa) (hb : PX κ X b fb) (hs : NoSl b := by first | exact fun _ _ => rfl | (intro _ _ _; rfl) | (intro _ _; rfl)) : PX κ X (.Subscript a b pos) (x2 oGet fa fb) := pe_mono (pe_dget (hu_of kn.room) ha (PB.of hb) hs) fun σ H Q ⟨δ, Z, z, E, d, hd, q⟩ => by
  obtain ⟨x, y, h1, h2, h3⟩ := x2_some hd
  refine ⟨δ, Z, z, E, x, h1, fun v H1 e1 r1 => ⟨δ, Z, z.ext e1, E.ext e1, y, h2, fun u H2 e2 r2 => ?_⟩⟩
  have r1' := r1.ext e2
  unfold oGet at h3
  cases x with
  | dct kvs =>
    dsimp only at h3
    split at h3
    · next k =>
      obtain ⟨a, o, rfl, g, ho, _⟩ := dget_of k r2 r1'
      obtain ⟨v, rfl, rv⟩ := ho d h3
      exact ⟨a, v, rfl, g, q v H2 (e1.trans e2) rv⟩
    · cases h3
  | dtt kvs =>
    dsimp only at h3
    split at h3
    · next k =>
      obtain ⟨a, o, rfl, g, ho, _⟩ := dgetT_of k r2 r1'
      obtain ⟨v, rfl, rv⟩ := ho d h3
      exact ⟨a, v, rfl, g, q v H2 (e1.trans e2) rv⟩
    · cases h3
  | _ => cases h3
theorem hide_new {Z : Addr → Prop} {H : Hp} (z : ZOk Z H) {p : Addr} {o : HO} (h : H p = none) : hide Z (upd H p o) p = some o := hide_some.mpr ⟨z.fresh h, upd_same⟩
theorem new_lst {Z : Addr → Prop} {H : Hp} (z : ZOk Z H) {p : Addr} {vs : List V} {ds : List D} (h : H p = none) (r : Reps κ (hide Z H) ds vs) : Rep κ (hide Z (upd H p (.lst vs))) (.lst ds) (.ref p) := ⟨p, vs, rfl, hide_new z h, Reps.ext (.upd h) r⟩
theorem new_tup {Z : Addr → Prop} {H : Hp} (z : ZOk Z H) {p : Addr} {vs : List V} {ds : List D} (h : H p = none) (r : Reps κ (hide Z H) ds vs) : Rep κ (hide Z (upd H p (.tup vs))) (.tup ds) (.ref p) := ⟨p, vs, rfl, hide_new z h, Reps.ext (.upd h) r⟩
theorem new_dct {Z : Addr → Prop} {H : Hp} (z : ZOk Z H) {p : Addr} {l : List (Key × V)} {kvs : List (D × D)} (h : H p = none) (r : RepK κ (hide Z H) kvs l) : Rep κ (hide Z (upd H p (.dK l))) (.dct kvs) (.ref p) := ⟨p, l, rfl, .inl (hide_new z h), RepK.le (Ext.hide (.upd h)) _ _ r⟩
theorem A_nil : PAx κ X [] xs0 := pa_mono pa_nil fun σ H Q ⟨δ, Z, z, E, d, hd, q⟩ => by cases hd; exact q [] H (.refl H) rfl
theorem A_cons (ha : PX κ X e f) (hr : PAx κ X es g) (hs : starEach (e :: es) X.env = (false, eval e X.env) :: starEach es X.env := by rfl) : PAx κ X (e :: es) (xsC f g) := pa_mono (pa_cons ha hr hs) fun σ H Q ⟨δ, Z, z, E, d, hd, q⟩ => by
  obtain ⟨x, h1, h2⟩ := Option.bind_eq_some_iff.mp hd
  obtain ⟨y, h3, h4⟩ := Option.bind_eq_some_iff.mp h2
  cases h4
  exact ⟨δ, Z, z, E, x, h1, fun v H1 e1 r1 => ⟨δ, Z, z.ext e1, E.ext e1, y, h3, fun vs H2 e2 r2 => q (v :: vs) H2 (e1.trans e2) ⟨v, vs, rfl, Rep.ext e2 r1, r2⟩⟩⟩
/-- .. of operands -/
def tPAB (K : PySem.W.Frag) (κ : Kap) (f : Sx) : TA := fun σ H Q => ∃ (δ : En) (Z : Addr → Prop), ZOk Z H ∧ EnvR K κ H Z σ δ ∧ ∃ d, f δ = some d ∧ ∀ v H', Ext H H' → Paired (fun d v => Rep1 K κ H' (hide Z H') d v) d v → Q v H'
abbrev PABx (κ : Kap) (X : Cx) (es : List Expr) (f : Sx) : Prop := PA X es (tPAB X.K κ f)
theorem paired_ext {K : PySem.W.Frag} {Z : Addr → Prop} {H H' : Hp} (e : Ext H H') : ∀ {ds : List D} {vs : List V}, Paired (fun d v => Rep1 K κ H (hide Z H) d v) ds vs → Paired (fun d v => Rep1 K κ H' (hide Z H') d v) ds vs
  | _, _, .nil => .nil
  | _, _, .cons r t => .cons (Rep1.ext e r) (paired_ext e t)
theorem AB_nil : PABx κ X [] xs0 := pa_mono pa_nil fun σ H Q ⟨δ, Z, z, E, d, hd, q⟩ => by cases hd; exact q [] H (.refl H) .nil
theorem AB_cons (ha : PB κ X e f) (hr : PABx κ X es g) (hs : starEach (e :: es) X.env = (false, eval e X.env) :: starEach es X.env := by rfl) : PABx κ X (e :: es) (xsC f g) := pa_mono (pa_cons ha hr hs) fun σ H Q ⟨δ, Z, z, E, d, hd, q⟩ => by
  obtain ⟨x, h1, h2⟩ := Option.bind_eq_some_iff.mp hd
  obtain ⟨y, h3, h4⟩ := Option.bind_eq_some_iff.mp h2
  cases h4
  exact ⟨δ, Z, z, E, x, h1, fun v H1 e1 r1 => ⟨δ, Z, z.ext e1, E.ext e1, y, h3, fun vs H2 e2 r2 => q (v :: vs) H2 (e1.trans e2) (.cons (r1.ext e2) r2)⟩⟩
def oTup (ds : List D) : Option D := if ds.length ≤ most then some (.tup ds) else none
def oLst (ds : List D) : Option D := if ds.length ≤ most then some (.lst ds) else none
theorem most_ok {n : Nat} (h : n ≤ most) : n ≤ sizeLine := by rw [sizeLine_eq]; exact Nat.le_trans h (by decide)
theorem X_tup {x1} (h : PAx κ X es g) : PX κ X (.Tuple es x1 pos) (xL oTup g) := pe_mono (pe_tup h) fun σ H Q ⟨δ, Z, z, E, d, hd, q⟩ => by
  obtain ⟨ds, h1, h2⟩ := Option.bind_eq_some_iff.mp hd
  unfold oTup at h2
  split at h2
  · next hl =>
    cases h2
    exact ⟨δ, Z, z, E, ds, h1, fun vs H1 e1 r => ⟨by rw [r.length]; exact most_ok hl, fun p hp => q _ _ (e1.trans (.upd hp)) (new_tup (z.ext e1) hp r)⟩⟩
  · cases h2
theorem X_lst (h : PAx κ X es g) : PX κ X (.List es pos) (xL oLst g) := pe_mono (pe_lst h) fun σ H Q ⟨δ, Z, z, E, d, hd, q⟩ => by
  obtain ⟨ds, h1, h2⟩ := Option.bind_eq_some_iff.mp hd
  unfold oLst at h2
  split at h2
  · next hl =>
    cases h2
    exact ⟨δ, Z, z, E, ds, h1, fun vs H1 e1 r => ⟨by rw [r.length]; exact most_ok hl, fun p hp => q _ _ (e1.trans (.upd hp)) (new_lst (z.ext e1) hp r)⟩⟩
  · cases h2
def rB (K : PySem.W.Frag) (κ : Kap) (g : List D → Option D) : List V → Hp → VK → Prop := fun xs H Q => ∃ (Z : Addr → Prop) (ds : List D), ZOk Z H ∧ Paired (fun d v => Rep1 K κ H (hide Z H) d v) ds xs ∧ ∃ c, g ds = some c ∧ ∀ v H', Ext H H' → Rep κ (hide Z H') c v → Q v H'
theorem tcb_of {K : PySem.W.Frag} {r : List V → Hp → VK → Prop} {o : List D → Option D} (hr : ∀ xs H Q, rB K κ o xs H Q → r xs H Q) {σ : L2.St} {H : Hp} {Q : VK} (h : tPX K κ (xL o g) σ H Q) : tCB r (tPAB K κ g) σ H Q := by
  obtain ⟨δ, Z, z, E, d, hd, q⟩ := h
  obtain ⟨ds, h1, h2⟩ := Option.bind_eq_some_iff.mp hd
  exact ⟨δ, Z, z, E, ds, h1, fun vs H1 e1 r => hr _ _ _ ⟨Z, ds, z.ext e1, r, d, h2, fun v H' e2 r2 => q v H' (e1.trans e2) r2⟩⟩
theorem X_blt {id : String} {x : Str} {r : List V → Hp → VK → Prop} {o : List D → Option D} (hc : CallR X (.builtin id) r) (hr : ∀ xs H Q, rB X.K κ o xs H Q → r xs H Q) (hg : Gl X x) (hm : X.mg x = none) (hv : bootBuiltins x = some (.builtin id)) (ha : PABx κ X (e :: es) g) (hn : x ≠ "__name__" := by decide) (hdb : (x == ("__debug__" : Str)) = false := by decide)
    (he : starEach (e :: es) X.env = (false, eval e X.env) :: starEach es X.env := by rfl) (hpl : (backTo pos (starEach es X.env)).any (·.1) = false := by rfl) : PX κ X (.Call (.Name x p) (e :: es) [] pos) (xL o g) :=
  pe_mono (pe_callB hc hg hm hv ha hn hdb he hpl) fun _ _ _ h => tcb_of hr h
theorem X_ty {T : String} {x : Str} {r : List V → Hp → VK → Prop} {o : List D → Option D} (hc : CallR X (.type T) r) (hr : ∀ xs H Q, rB X.K κ o xs H Q → r xs H Q) (hg : Gl X x) (hm : X.mg x = none) (hv : bootBuiltins x = some (.type T)) (ha : PABx κ X (e :: es) g) (hn : x ≠ "__name__" := by decide) (hdb : (x == ("__debug__" : Str)) = false := by decide)
    (he : starEach (e :: es) X.env = (false, eval e X.env) :: starEach es X.env := by rfl) (hpl : (backTo pos (starEach es X.env)).any (·.1) = false := by rfl) : PX κ X (.Call (.Name x p) (e :: es) [] pos) (xL o g) :=
  pe_mono (pe_callTy hc hg hm hv ha hn hdb he hpl) fun _ _ _ h => tcb_of hr h
theorem paired1 {α β : Type} {F : α → β → Prop} {d : α} {xs : List β} (h : Paired F [d] xs) : ∃ x, xs = [x] ∧ F d x := by
  cases h with
  | cons r t => cases t; exact ⟨_, rfl, r⟩
theorem paired2 {α β : Type} {F : α → β → Prop} {d e : α} {xs : List β} (h : Paired F [d, e] xs) : ∃ x y, xs = [x, y] ∧ F d x ∧ F e y := by
  cases h with
  | cons r t =>
    cases t with
    | cons r2 t => cases t; exact ⟨_, _, rfl, r, r2⟩
end
end BP
namespace BP
open PySem L2
section
variable {κ : Kap} {X : Cx} {a b c e : Expr} {es : List Expr} {f fa fb fc : Ex} {g gr : Sx} {pos p p2 apos : Pos} {k : Nat}
theorem rb_one {K : PySem.W.Frag} {o : List D → Option D} {r : List V → Hp → VK → Prop} (ho : ∀ ds c, o ds = some c → ∃ d, ds = [d]) (h : ∀ (Z : Addr → Prop) (d : D) (x : V) (c : D) (H : Hp) (Q : VK), ZOk Z H → Rep1 K κ H (hide Z H) d x → o [d] = some c → (∀ v H', Ext H H' → Rep κ (hide Z H') c v → Q v H') → r [x] H Q) : ∀ xs H Q, rB K κ o xs H Q → r xs H Q := fun xs H Q ⟨Z, ds, z, pr, c, hc, q⟩ => by
  obtain ⟨d, rfl⟩ := ho ds c hc
  obtain ⟨x, rfl, rx⟩ := paired1 pr
  exact h Z d x c H Q z rx hc q
theorem call_len_dTR : CallR X (.builtin "len") (fun xs H Q => ∃ (p : Addr) (kvs : List (List Key × V)), xs = [.ref p] ∧ Rd H p (.dT kvs) ∧ Q (.int ((kvs.length : Nat) : Int)) H) := by
  intro pins s σ H xs us Q I r h
  obtain ⟨p, kvs, rfl, hp, q⟩ := h
  obtain ⟨u, rfl, rx⟩ := vals1 r
  obtain rfl : u = .ref p := rx
  obtain ⟨z, hd, ys, rel, dd⟩ := dt_rd I.hok hp
  have hl : kvs.length = ys.length := Paired.length rel
  refine call_len_dictH hd dd (by rw [← hl]; rw [sizeLine_eq] at z; omega) ?_
  rw [← hl]
  exact ⟨.int ((kvs.length : Nat) : Int), H, I.tok _, ⟨_, rfl⟩, q⟩
theorem call_len_dKR : CallR X (.builtin "len") (fun xs H Q => ∃ (p : Addr) (kvs : List (Key × V)), xs = [.ref p] ∧ Rd H p (.dK kvs) ∧ Q (.int ((kvs.length : Nat) : Int)) H) := by
  intro pins s σ H xs us Q I r h
  obtain ⟨p, kvs, rfl, hp, q⟩ := h
  obtain ⟨u, rfl, rx⟩ := vals1 r
  obtain rfl : u = .ref p := rx
  exact d_len I hp fun t s' I' => ⟨.int kvs.length, H, I', ⟨t, rfl⟩, q⟩
theorem call_len_all : CallR X (.builtin "len") (fun xs H Q => (∃ p ys, xs = [.ref p] ∧ (SqL X.K H p ys ∨ SqT X.K H p ys) ∧ Q (.int ys.length) H) ∨ (∃ z, xs = [.str z] ∧ z.length ≤ sizeLine ∧ Q (.int z.length) H) ∨ (∃ (p : Addr) (kvs : List (Key × V)), xs = [.ref p] ∧ Rd H p (.dK kvs) ∧ Q (.int ((kvs.length : Nat) : Int)) H) ∨ (∃ (p : Addr) (kvs : List (List Key × V)), xs = [.ref p] ∧ Rd H p (.dT kvs) ∧ Q (.int ((kvs.length : Nat) : Int)) H)) :=
  call_len_seq.or (call_len_str.or (call_len_dKR.or call_len_dTR))
theorem repK_len {H : Hp} : ∀ {kvs : List (D × D)} {l : List (Key × V)}, RepK κ H kvs l → l.length = kvs.length
  | [], l, h => by subst h; rfl
  | (_, _) :: r, l, ⟨_, _, t, e, _, _, h⟩ => by subst e; simp [repK_len h]
theorem repT_len {H : Hp} : ∀ {kvs : List (D × D)} {l : List (List Key × V)}, RepT κ H kvs l → l.length = kvs.length
  | [], l, h => by subst h; rfl
  | (_, _) :: r, l, ⟨_, _, t, e, _, _, h⟩ => by subst e; simp [repT_len h]
theorem X_len (hg : Gl X "len") (hm : X.mg "len" = none) (ha : PABx κ X [e] g) (he : starEach [e] X.env = (false, eval e X.env) :: starEach [] X.env := by rfl) (hpl : (backTo pos (starEach [] X.env)).any (·.1) = false := by rfl) : PX κ X (.Call (.Name "len" p) [e] [] pos) (xL oLen g) :=
  X_blt call_len_all (rb_one (fun ds c h => by
    unfold oLen at h
    split at h <;> first | exact ⟨_, rfl⟩ | cases h) fun Z d x c H Q z rx h q => by
    cases d <;> simp only [oLen] at h <;> first | (cases h; done) | skip
    · split at h
      · next hl => cases h; exact .inr (.inl ⟨_, by rw [show x = _ from rx], most_ok hl, q _ H (.refl H) rfl⟩)
      · cases h
    · cases h; obtain ⟨p, vs, rfl, h, r⟩ := rx; exact .inl ⟨p, vs, rfl, .inr (SqT.of h), by rw [r.length]; exact q _ H (.refl H) rfl⟩
    · cases h; obtain ⟨p, vs, rfl, h, r⟩ := rx; exact .inl ⟨p, vs, rfl, .inl h, by rw [r.length]; exact q _ H (.refl H) rfl⟩
    · cases h; obtain ⟨p, vs, rfl, h, r⟩ := rx; exact .inr (.inr (.inl ⟨p, vs, rfl, h, by rw [repK_len r]; exact q _ H (.refl H) rfl⟩))
    · cases h; obtain ⟨p, vs, rfl, h, r⟩ := rx; exact .inr (.inr (.inr ⟨p, vs, rfl, h, by rw [repT_len r]; exact q _ H (.refl H) rfl⟩))) hg hm boot_len ha (he := he) (hpl := hpl)
theorem bools_of {H : Hp} : ∀ {ds : List D} {vs : List V} {bs : List Bool}, boolsOf ds = some bs → Reps κ H ds vs → vs = bs.map V.bl
  | [], _, _, h, r => by cases h; exact r
  | .bl b :: ds, _, _, h, ⟨v, t, e, q, r⟩ => by
    subst e
    obtain ⟨bs, h1, h2⟩ := Option.map_eq_some_iff.mp h
    subst h2
    rw [bools_of h1 r, show v = V.bl b from q]; rfl
  | .non :: _, _, _, h, _ => by cases h
  | .int _ :: _, _, _, h, _ => by cases h
  | .str _ :: _, _, _, h, _ => by cases h
  | .tup _ :: _, _, _, h, _ => by cases h
  | .lst _ :: _, _, _, h, _ => by cases h
  | .dct _ :: _, _, _, h, _ => by cases h
  | .dtt _ :: _, _, _, h, _ => by cases h
  | .obj _ _ :: _, _, _, h, _ => by cases h
theorem ints_of {H : Hp} : ∀ {ds : List D} {vs : List V} {bs : List Int}, intsOf ds = some bs → Reps κ H ds vs → vs = bs.map V.int
  | [], _, _, h, r => by cases h; exact r
  | .int b :: ds, _, _, h, ⟨v, t, e, q, r⟩ => by
    subst e
    obtain ⟨bs, h1, h2⟩ := Option.map_eq_some_iff.mp h
    subst h2
    rw [ints_of h1 r, show v = V.int b from q]; rfl
  | .non :: _, _, _, h, _ => by cases h
  | .bl _ :: _, _, _, h, _ => by cases h
  | .str _ :: _, _, _, h, _ => by cases h
  | .tup _ :: _, _, _, h, _ => by cases h
  | .lst _ :: _, _, _, h, _ => by cases h
  | .dct _ :: _, _, _, h, _ => by cases h
  | .dtt _ :: _, _, _, h, _ => by cases h
  | .obj _ _ :: _, _, _, h, _ => by cases h
theorem X_all (kn : Kn X k) (hg : Gl X "all") (hm : X.mg "all" = none) (ha : PABx κ X [e] g) (he : starEach [e] X.env = (false, eval e X.env) :: starEach [] X.env := by rfl) (hpl : (backTo pos (starEach [] X.env)).any (·.1) = false := by rfl) : PX κ X (.Call (.Name "all" p) [e] [] pos) (xL oAll g) :=
  X_blt (cr_all kn.calm) (rb_one (fun ds c h => by
    unfold oAll at h
    split at h <;> first | exact ⟨_, rfl⟩ | cases h) fun Z d x c H Q z rx h q => by
    cases d <;> simp only [oAll] at h <;> first | (cases h; done) | skip
    obtain ⟨bs, h1, h2⟩ := Option.map_eq_some_iff.mp h
    subst h2
    obtain ⟨p, vs, rfl, hp, r⟩ := rx
    have := bools_of h1 r
    subst this
    exact ⟨p, bs, rfl, hp, q _ H (.refl H) rfl⟩) hg hm PyProof.Rows.boot_all ha (he := he) (hpl := hpl)
theorem X_any (kn : Kn X k) (hg : Gl X "any") (hm : X.mg "any" = none) (ha : PABx κ X [e] g) (he : starEach [e] X.env = (false, eval e X.env) :: starEach [] X.env := by rfl) (hpl : (backTo pos (starEach [] X.env)).any (·.1) = false := by rfl) : PX κ X (.Call (.Name "any" p) [e] [] pos) (xL oAny g) :=
  X_blt (cr_any kn.calm) (rb_one (fun ds c h => by
    unfold oAny at h
    split at h <;> first | exact ⟨_, rfl⟩ | cases h) fun Z d x c H Q z rx h q => by
    cases d <;> simp only [oAny] at h <;> first | (cases h; done) | skip
    obtain ⟨bs, h1, h2⟩ := Option.map_eq_some_iff.mp h
    subst h2
    obtain ⟨p, vs, rfl, hp, r⟩ := rx
    have := bools_of h1 r
    subst this
    exact ⟨p, bs, rfl, hp, q _ H (.refl H) rfl⟩) hg hm PyProof.Rows.boot_any ha (he := he) (hpl := hpl)
theorem X_sum (kn : Kn X k) (hg : Gl X "sum") (hm : X.mg "sum" = none) (ha : PABx κ X [e] g) (he : starEach [e] X.env = (false, eval e X.env) :: starEach [] X.env := by rfl) (hpl : (backTo pos (starEach [] X.env)).any (·.1) = false := by rfl) : PX κ X (.Call (.Name "sum" p) [e] [] pos) (xL oSum g) :=
  X_blt (cr_sum kn.calm) (rb_one (fun ds c h => by
    unfold oSum at h
    split at h <;> first | exact ⟨_, rfl⟩ | cases h) fun Z d x c H Q z rx h q => by
    cases d <;> simp only [oSum] at h <;> first | (cases h; done) | skip
    obtain ⟨bs, h1, h2⟩ := Option.map_eq_some_iff.mp h
    subst h2
    obtain ⟨p, vs, rfl, hp, r⟩ := rx
    have := ints_of h1 r
    subst this
    exact ⟨p, bs, rfl, hp, q _ H (.refl H) rfl⟩) hg hm PyProof.Rows.boot_sum ha (he := he) (hpl := hpl)
def oAbs1 : List D → Option D
  | [d] => oAbs d
  | _ => none
theorem X_abs (hg : Gl X "abs") (hm : X.mg "abs" = none) (ha : PABx κ X [e] g) (he : starEach [e] X.env = (false, eval e X.env) :: starEach [] X.env := by rfl) (hpl : (backTo pos (starEach [] X.env)).any (·.1) = false := by rfl) : PX κ X (.Call (.Name "abs" p) [e] [] pos) (xL oAbs1 g) :=
  X_blt call_abs (rb_one (fun ds c h => by
    unfold oAbs1 at h
    split at h <;> first | exact ⟨_, rfl⟩ | cases h) fun Z d x c H Q z rx h q => by
    cases d <;> simp only [oAbs1, oAbs] at h <;> first | (cases h; done) | skip
    cases h
    exact ⟨_, by rw [show x = _ from rx], q _ H (.refl H) rfl⟩) hg hm PyProof.Rows.boot_abs ha (he := he) (hpl := hpl)
theorem rb_two {K : PySem.W.Frag} {o : List D → Option D} {r : List V → Hp → VK → Prop} {h' : Int → Int → Int} (ho : ∀ ds c, o ds = some c → ∃ i j, ds = [.int i, .int j] ∧ c = .int (h' i j)) (h : ∀ i j H Q, Q (.int (h' i j)) H → r [.int i, .int j] H Q) : ∀ xs H Q, rB K κ o xs H Q → r xs H Q := fun xs H Q ⟨Z, ds, z, pr, c, hc, q⟩ => by
  obtain ⟨i, j, rfl, rfl⟩ := ho ds c hc
  obtain ⟨x, y, rfl, rx, ry⟩ := paired2 pr
  rw [show x = .int i from rx, show y = .int j from ry]
  exact h i j H Q (q _ H (.refl H) rfl)
theorem X_max2 (kn : Kn X k) (hg : Gl X "max") (hm : X.mg "max" = none) (ha : PABx κ X [a, b] g) (he : starEach [a, b] X.env = (false, eval a X.env) :: starEach [b] X.env := by rfl) (hpl : (backTo pos (starEach [b] X.env)).any (·.1) = false := by rfl) : PX κ X (.Call (.Name "max" p) [a, b] [] pos) (xL oMax2 g) :=
  X_blt (call_max2 kn.calm) (rb_two (fun ds c h => by
    unfold oMax2 at h
    split at h
    · cases h; exact ⟨_, _, rfl, rfl⟩
    · cases h) fun i j H Q q => ⟨i, j, rfl, q⟩) hg hm PyProof.Rows.boot_max ha (he := he) (hpl := hpl)
theorem X_min2 (kn : Kn X k) (hg : Gl X "min") (hm : X.mg "min" = none) (ha : PABx κ X [a, b] g) (he : starEach [a, b] X.env = (false, eval a X.env) :: starEach [b] X.env := by rfl) (hpl : (backTo pos (starEach [b] X.env)).any (·.1) = false := by rfl) : PX κ X (.Call (.Name "min" p) [a, b] [] pos) (xL oMin2 g) :=
  X_blt (call_min2 kn.calm) (rb_two (fun ds c h => by
    unfold oMin2 at h
    split at h
    · cases h; exact ⟨_, _, rfl, rfl⟩
    · cases h) fun i j H Q q => ⟨i, j, rfl, q⟩) hg hm PyProof.Rows.boot_min ha (he := he) (hpl := hpl)
theorem repK_kv {H : Hp} : ∀ {kvs : List (D × D)} {l : List (Key × V)}, RepK κ H kvs l → Reps κ H (kvs.map (·.1)) (l.map fun kv => kV kv.1)
  | [], l, h => by subst h; rfl
  | (_, _) :: r, l, ⟨k, v, t, e, e2, _, h⟩ => by subst e e2; exact ⟨kV k, _, rfl, key_rep k, repK_kv h⟩
theorem call_list_all (hc : X.calm = true) : CallR X (.type "list") (fun xs H Q => (∃ p ys, xs = [.ref p] ∧ (SqL X.K H p ys ∨ SqT X.K H p ys) ∧ ∀ l, H l = none → Q (.ref l) (upd H l (.lst ys))) ∨ (∃ (a : Addr) (kvs : List (Key × V)), xs = [.ref a] ∧ Rd H a (.dK kvs) ∧ ∀ p, H p = none → Q (.ref p) (upd H p (.lst (kvs.map fun kv => kV kv.1))))) := call_list_of.or (call_listD hc)
theorem X_list (kn : Kn X k) (hg : Gl X "list") (hm : X.mg "list" = none) (ha : PABx κ X [e] g) (he : starEach [e] X.env = (false, eval e X.env) :: starEach [] X.env := by rfl) (hpl : (backTo pos (starEach [] X.env)).any (·.1) = false := by rfl) : PX κ X (.Call (.Name "list" p) [e] [] pos) (xL oList g) :=
  X_ty (call_list_all kn.calm) (rb_one (fun ds c h => by
    unfold oList at h
    split at h <;> first | exact ⟨_, rfl⟩ | cases h) fun Z d x c H Q z rx h q => by
    cases d <;> simp only [oList] at h <;> first | (cases h; done) | skip
    · cases h; obtain ⟨p, vs, rfl, h, r⟩ := rx; exact .inl ⟨p, vs, rfl, .inr (SqT.of h), fun l hl => q _ _ (.upd hl) (new_lst z hl r)⟩
    · cases h; obtain ⟨p, vs, rfl, h, r⟩ := rx; exact .inl ⟨p, vs, rfl, .inl h, fun l hl => q _ _ (.upd hl) (new_lst z hl r)⟩
    · cases h; obtain ⟨p, vs, rfl, h, r⟩ := rx; exact .inr ⟨p, vs, rfl, h, fun l hl => q _ _ (.upd hl) (new_lst z hl (repK_kv r))⟩) hg hm PyProof.Rows.boot_list ha (he := he) (hpl := hpl)
def oTup1 : List D → Option D
  | [.lst d] => some (.tup d)
  | _ => none
theorem X_tuple (hg : Gl X "tuple") (hm : X.mg "tuple" = none) (ha : PABx κ X [e] g) (he : starEach [e] X.env = (false, eval e X.env) :: starEach [] X.env := by rfl) (hpl : (backTo pos (starEach [] X.env)).any (·.1) = false := by rfl) : PX κ X (.Call (.Name "tuple" p) [e] [] pos) (xL oTup1 g) :=
  X_ty call_tuple_of (rb_one (fun ds c h => by
    unfold oTup1 at h
    split at h <;> first | exact ⟨_, rfl⟩ | cases h) fun Z d x c H Q z rx h q => by
    cases d <;> simp only [oTup1] at h <;> first | (cases h; done) | skip
    cases h; obtain ⟨p, vs, rfl, h, r⟩ := rx; exact ⟨p, vs, rfl, .inl ⟨h, fun l hl => q _ _ (.upd hl) (new_tup z hl r)⟩⟩) hg hm PyProof.Rows.boot_tuple ha (he := he) (hpl := hpl)
theorem X_dictD (hg : Gl X "dict") (hm : X.mg "dict" = none) (ha : PABx κ X [e] g) (he : starEach [e] X.env = (false, eval e X.env) :: starEach [] X.env := by rfl) (hpl : (backTo pos (starEach [] X.env)).any (·.1) = false := by rfl) : PX κ X (.Call (.Name "dict" p) [e] [] pos) (xL oDictD g) :=
  X_ty call_dictD (rb_one (fun ds c h => by
    unfold oDictD at h
    split at h <;> first | exact ⟨_, rfl⟩ | cases h) fun Z d x c H Q z rx h q => by
    cases d <;> simp only [oDictD] at h <;> first | (cases h; done) | skip
    cases h; obtain ⟨p, vs, rfl, h, r⟩ := rx; exact ⟨p, vs, rfl, h, fun l hl => q _ _ (.upd hl) (new_dct z hl r)⟩) hg hm PyProof.Rows.boot_dict ha (he := he) (hpl := hpl)
/-- putting a pair -/
theorem repK_any {H : Hp} {k : Key} : ∀ {kvs : List (D × D)} {l : List (Key × V)}, RepK κ H kvs l → kvs.any (fun p => decide (p.1 = keyD k)) = l.any (fun p => decide (p.1 = k))
  | [], l, h => by subst h; rfl
  | (a, x) :: r, l, ⟨k', v', t, e, e2, h3, h4⟩ => by
    subst e e2
    rw [List.any_cons, List.any_cons, repK_any h4]
    congr 1
    exact decide_eq_decide.mpr ⟨keyD_inj, fun e => congrArg keyD e⟩
theorem repK_map {H : Hp} {k : Key} {d : D} {v : V} (q : Rep κ H d v) : ∀ {kvs : List (D × D)} {l : List (Key × V)}, RepK κ H kvs l → RepK κ H (kvs.map fun p => if p.1 = keyD k then (p.1, d) else p) (l.map fun p => if p.1 = k then (p.1, v) else p)
  | [], l, h => by subst h; rfl
  | (a, x) :: r, l, ⟨k', v', t, e, e2, h3, h4⟩ => by
    subst e e2
    rw [List.map_cons, List.map_cons]
    by_cases hk : k' = k
    · subst hk
      rw [if_pos rfl, if_pos rfl]
      exact ⟨k', v, _, rfl, rfl, q, repK_map q h4⟩
    · rw [if_neg hk, if_neg (fun e => hk (keyD_inj e))]
      exact ⟨k', v', _, rfl, rfl, h3, repK_map q h4⟩
theorem repK_app {H : Hp} {k : Key} {d : D} {v : V} (q : Rep κ H d v) : ∀ {kvs : List (D × D)} {l : List (Key × V)}, RepK κ H kvs l → RepK κ H (kvs ++ [(keyD k, d)]) (l ++ [(k, v)])
  | [], l, h => by subst h; exact ⟨k, v, [], rfl, rfl, q, rfl⟩
  | (a, x) :: r, l, ⟨k', v', t, e, e2, h3, h4⟩ => by
    subst e e2
    exact ⟨k', v', _, rfl, rfl, h3, repK_app q h4⟩
theorem repK_put {H : Hp} {k : Key} {d : D} {v : V} (q : Rep κ H d v) {kvs : List (D × D)} {l : List (Key × V)} (r : RepK κ H kvs l) : RepK κ H (dPut (keyD k) d kvs) (putK l k v) := by
  unfold dPut putK
  rw [repK_any r]
  split
  · exact repK_map q r
  · exact repK_app q r
theorem pairs_D {H : Hp} {K : PySem.W.Frag} {R : Hp} (le : Le H R) : ∀ {ds : List D} {vs : List V} {ps : List (D × D)}, pairsOf ds = some ps → Reps κ H ds vs → ∃ (as : List Addr) (kvs : List (Key × V)), vs = as.map V.ref ∧ Paired (fun p kv => SqT K R p [kV kv.1, kv.2]) as kvs ∧ RepK κ H ps kvs
  | [], _, _, h, r => by cases h; subst r; exact ⟨[], [], rfl, .nil, rfl⟩
  | d :: ds, _, _, h, ⟨v, t, e, q, r⟩ => by
    subst e
    unfold pairsOf at h
    split at h
    · next h1 => simp at h1
    · next k w rr h1 =>
      simp only [List.cons.injEq] at h1
      obtain ⟨rfl, rfl⟩ := h1
      split at h
      · next hk =>
        obtain ⟨ps, h2, h3⟩ := Option.map_eq_some_iff.mp h
        subst h3
        obtain ⟨as, kvs, rfl, pr, rk⟩ := pairs_D le h2 r
        obtain ⟨b, us, rfl, hb, x, t1, e1, rx, y, t2, e2, ry, e3⟩ := q
        subst e3 e2 e1
        have hkk := keyOf_ok hk
        rw [hkk] at rx
        have := rep_key rx
        subst this
        exact ⟨b :: as, (keyOf k, y) :: kvs, rfl, .cons (SqT.of (le.tup _ _ hb)) pr, ⟨keyOf k, y, kvs, rfl, hkk, ry, rk⟩⟩
      · cases h
    · cases h
theorem merge_D {H : Hp} : ∀ {ps : List (D × D)} {kvs : List (Key × V)} {m : List (D × D)} {l : List (Key × V)}, RepK κ H ps kvs → RepK κ H m l → RepK κ H (ps.foldl (fun m p => dPut p.1 p.2 m) m) (mergeK l kvs)
  | [], _, m, l, h, q => by subst h; exact q
  | (a, x) :: r, _, m, l, ⟨k, v, t, e, e2, h3, h4⟩, q => by
    subst e e2
    exact merge_D (ps := r) (kvs := t) (m := dPut (keyD k) x m) (l := putK l k v) h4 (repK_put h3 q)
theorem X_dictP (kn : Kn X k) (hg : Gl X "dict") (hm : X.mg "dict" = none) (ha : PABx κ X [e] g) (he : starEach [e] X.env = (false, eval e X.env) :: starEach [] X.env := by rfl) (hpl : (backTo pos (starEach [] X.env)).any (·.1) = false := by rfl) : PX κ X (.Call (.Name "dict" p) [e] [] pos) (xL oDictP g) :=
  X_ty (call_dictP kn.calm) (rb_one (fun ds c h => by
    unfold oDictP at h
    split at h <;> first | exact ⟨_, rfl⟩ | cases h) fun Z d x c H Q z rx h q => by
    cases d <;> simp only [oDictP] at h <;> first | (cases h; done) | skip
    split at h
    · obtain ⟨ps, h1, h2⟩ := Option.map_eq_some_iff.mp h
      subst h2
      obtain ⟨p, vs, rfl, hp, r⟩ := rx
      obtain ⟨as, kvs, rfl, pr, rk⟩ := pairs_D (K := X.K) (hide_le Z H) h1 r
      exact ⟨p, as, kvs, rfl, hp, pr, fun l hl => q _ _ (.upd hl) (new_dct z hl (merge_D (m := []) (l := []) rk rfl))⟩
    · cases h) hg hm PyProof.Rows.boot_dict ha (he := he) (hpl := hpl)
end
end BP
namespace BP
open PySem L2
section
variable {κ : Kap} {X : Cx} {a b c e : Expr} {es : List Expr} {f fa fb fc : Ex} {g gr : Sx} {pos p p2 p3 apos : Pos} {k : Nat}
/-- the types asked -/
def tysK : List String := ["NoneType", "bool", "int", "str", "tuple", "list", "dict"]
def tysT : List String := ["str", "dict", "int", "bool", "list", "tuple"]
theorem kit_all : (tysK.all fun t => tysT.all fun T => decide (kitB t T = some (tyIs t T))) = true := by decide +kernel
theorem kit_at {t T : String} (h1 : t ∈ tysK) (h2 : T ∈ tysT) : kitB t T = some (tyIs t T) := by
  have := List.all_eq_true.mp kit_all t h1
  exact of_decide_eq_true (List.all_eq_true.mp this T h2)
theorem tyN_in {d : D} {t : String} (h : tyN d = some t) : t ∈ tysK := by
  cases d <;> simp only [tyN] at h <;> first | (cases h; done) | (cases h; decide)
/-- the type of a value that is represented; a dict by tuples apart -/
theorem tyx_of {K : PySem.W.Frag} {R H : Hp} {d : D} {v : V} {t : String} (h : tyN d = some t) (r : Rep1 K κ R H d v) : TyX K R v (.type t) ∨ ∃ a l, v = .ref a ∧ Rd R a (.dT l) ∧ t = "dict" := by
  cases d <;> simp only [tyN] at h <;> first | (cases h; done) | skip
  all_goals cases h
  · cases r; exact .inl (.base .non)
  · cases r; exact .inl (.base (.bl _))
  · cases r; exact .inl (.base (.int _))
  · cases r; exact .inl (.base (.str _))
  · obtain ⟨p, vs, rfl, hp, _⟩ := r; exact .inl (.base (.tup hp))
  · obtain ⟨p, vs, rfl, hp, _⟩ := r
    rcases hp with (hp | ⟨o, hp⟩) | ⟨o, its, n, h1, h2, _⟩
    · exact .inl (.base (.lst hp))
    · exact .inl (.base (.frz hp))
    · exact .inl (.kList h1 h2)
  · obtain ⟨p, l, rfl, hp, _⟩ := r
    rcases hp with hp | ⟨o, hp⟩
    · exact .inl (.base (.dK hp))
    · exact .inl (.fDict hp)
  · obtain ⟨p, l, rfl, hp, _⟩ := r; exact .inr ⟨p, l, rfl, hp, rfl⟩
theorem call_isiD : CallR X (.builtin "isinstance") (fun xs H Q => ∃ (a : Addr) (l : List (List Key × V)) (T : String), xs = [.ref a, .ty T] ∧ Rd H a (.dT l) ∧ T ∈ tysT ∧ Q (.bl (tyIs "dict" T)) H) := by
  intro pins s σ H xs us Q I r h
  obtain ⟨a, l, T, rfl, hp, hT, q⟩ := h
  obtain ⟨u1, u2, rfl, r1, r2⟩ := vals2 r
  obtain rfl : u1 = .ref a := r1
  obtain rfl : u2 = .type T := r2
  obtain ⟨_, _, xs, _, o, es, ep, h1, h2, _⟩ := dt_rd I.hok hp
  exact PySem.W.kia_one PySem.W.kitx_dict I.kIn ⟨o, h1, h2.1⟩ (kit_ty (kit_at (by decide) hT)) (fun z => nomatch z) fun tk => ⟨.bl _, H, I.tok tk, rfl, q⟩
theorem call_isiD2 : CallR X (.builtin "isinstance") (fun xs H Q => ∃ (a tp : Addr) (l : List (List Key × V)) (T U : String), xs = [.ref a, .ref tp] ∧ H tp = some (.tup [.ty T, .ty U]) ∧ Rd H a (.dT l) ∧ T ∈ tysT ∧ U ∈ tysT ∧ Q (.bl (tyIs "dict" T || tyIs "dict" U)) H) := by
  intro pins s σ H xs us Q I r h
  obtain ⟨a, tp, l, T, U, rfl, hT, hp, h3, h4, q⟩ := h
  obtain ⟨u1, u2, rfl, r1, r2⟩ := vals2 r
  obtain rfl : u1 = .ref a := r1
  obtain rfl : u2 = .ref tp := r2
  obtain ⟨_, _, xs, _, o, es, ep, h1, h2, _⟩ := dt_rd I.hok hp
  obtain ⟨_, its, rv, oT, g1, g2, n, g3⟩ := (show ObjOk X.prog X.w H s.heap tp (.tup _) from I.hok tp _ hT)
  have e3 := ClsV.all (.cons (.ty T) (.cons (.ty U) .nil)) rv
  subst e3
  obtain ⟨oc, od, dt, sl⟩ := oT
  simp only at g2 g3
  subst g2 g3
  refine PySem.W.kia_tup PySem.W.kitx_dict I.kIn ⟨o, h1, h2.1⟩ g1 (kitAny_cons (kit_ty (kit_at (by decide) h3)) (r := tyIs "dict" T || tyIs "dict" U) (fun e => ?_) fun e => by rw [e]; rfl) (fun z => nomatch z) fun tk => ⟨.bl _, H, I.tok tk, rfl, q⟩
  rw [e, Bool.false_or]
  refine kitAny_cons (kit_ty (kit_at (by decide) h4)) (fun e => ?_) fun e => e
  rw [e]; rfl
theorem X_isi {T : String} {x : Str} (hT : T ∈ tysT) (hg0 : Gl X "isinstance") (hm0 : X.mg "isinstance" = none) (hg : Gl X x) (hm : X.mg x = none) (hv : bootBuiltins x = some (.type T)) (ha : PB κ X e f) (hn : x ≠ "__name__" := by decide) (hdb : (x == ("__debug__" : Str)) = false := by decide)
    (he : starEach [e, .Name x p2] X.env = (false, eval e X.env) :: starEach [.Name x p2] X.env := by rfl) (he2 : starEach [.Name x p2] X.env = (false, eval (.Name x p2) X.env) :: starEach [] X.env := by rfl) (hpl : (backTo pos (starEach [.Name x p2] X.env)).any (·.1) = false := by rfl) : PX κ X (.Call (.Name "isinstance" p) [e, .Name x p2] [] pos) (x1 (oIsi T) f) :=
  pe_mono (pe_callB (call_isi.or call_isiD) hg0 hm0 PyProof.Rows.boot_isinstance (pa_cons ha (pa_cons (pe_bltn (v := .ty T) hg hm hv rfl hn hdb) pa_nil he2) he) (he := he) (hpl := hpl)) fun σ H Q ⟨δ, Z, z, E, d, hd, q⟩ => by
    obtain ⟨y, h1, h2⟩ := Option.bind_eq_some_iff.mp hd
    obtain ⟨t, h3, h4⟩ := Option.map_eq_some_iff.mp h2
    subst h4
    refine ⟨δ, Z, z, E, y, h1, fun v H' e1 r => ?_⟩
    rcases tyx_of h3 r with ty | ⟨a, l, rfl, hp, rfl⟩
    · exact .inl ⟨v, .ty T, _, _, _, rfl, .ty T, ty, kit_ty (kit_at (tyN_in h3) hT), q _ H' e1 rfl⟩
    · exact .inr ⟨a, l, T, rfl, hp, hT, q _ H' e1 rfl⟩
theorem X_isi2 {T U : String} {x y : Str} {j : Nat} {p4 : Pos} (hT : T ∈ tysT) (hU : U ∈ tysT) (hg0 : Gl X "isinstance") (hm0 : X.mg "isinstance" = none) (hg : Gl X x) (hm : X.mg x = none) (hv : bootBuiltins x = some (.type T)) (hgy : Gl X y) (hmy : X.mg y = none) (hvy : bootBuiltins y = some (.type U)) (ha : PB κ X e f) (hn : x ≠ "__name__" := by decide) (hdb : (x == ("__debug__" : Str)) = false := by decide) (hny : y ≠ "__name__" := by decide) (hdby : (y == ("__debug__" : Str)) = false := by decide)
    (he : starEach [e, .Tuple [.Name x p2, .Name y p3] j p4] X.env = (false, eval e X.env) :: starEach [.Tuple [.Name x p2, .Name y p3] j p4] X.env := by rfl) : PX κ X (.Call (.Name "isinstance" p) [e, .Tuple [.Name x p2, .Name y p3] j p4] [] pos) (x1 (oIsi2 T U) f) :=
  pe_mono (pe_callB (call_isiT.or call_isiD2) hg0 hm0 PyProof.Rows.boot_isinstance (pa_cons ha (pa_cons (pe_tup (pa_cons (pe_bltn (v := .ty T) hg hm hv rfl hn hdb) (pa_cons (pe_bltn (v := .ty U) hgy hmy hvy rfl hny hdby) pa_nil))) pa_nil) he) (he := he)) fun σ H Q ⟨δ, Z, z, E, d, hd, q⟩ => by
    obtain ⟨w, h1, h2⟩ := Option.bind_eq_some_iff.mp hd
    obtain ⟨t, h3, h4⟩ := Option.map_eq_some_iff.mp h2
    subst h4
    refine ⟨δ, Z, z, E, w, h1, fun v H' e1 r => ⟨by show 2 ≤ sizeLine; rw [sizeLine_eq]; decide, fun tp htp => ?_⟩⟩
    have r' := r.ext (Ext.upd (o := .tup [.ty T, .ty U]) htp)
    have fin : Q (.bl (tyIs t T || tyIs t U)) (upd H' tp (.tup [.ty T, .ty U])) := q _ _ (e1.trans (.upd htp)) rfl
    rcases tyx_of h3 r' with ty | ⟨a, l, rfl, hp, rfl⟩
    · refine .inl ⟨v, tp, _, _, [.type T, .type U], tyIs t T || tyIs t U, rfl, upd_same, .cons (.ty T) (.cons (.ty U) .nil), ty, ?_, fin⟩
      refine kitAny_cons (kit_ty (kit_at (tyN_in h3) hT)) (fun e => ?_) fun e => by rw [e]; rfl
      rw [e, Bool.false_or]
      refine kitAny_cons (kit_ty (kit_at (tyN_in h3) hU)) (fun e => ?_) fun e => e
      rw [e]; rfl
    · exact .inr ⟨a, tp, l, T, U, rfl, upd_same, hp, hT, hU, fin⟩
def tPO (K : PySem.W.Frag) (κ : Kap) (f : Ox) : TO := fun σ H Q => ∃ (δ : En) (Z : Addr → Prop), ZOk Z H ∧ EnvR K κ H Z σ δ ∧ ∃ o, f δ = some o ∧ ∀ H', Ext H H' → Q o H'
abbrev POx (κ : Kap) (X : Cx) (e : Option Expr) (f : Ox) : Prop := PO X e (tPO X.K κ f)
theorem po_mono {o : Option Expr} {t t' : TO} (h : PO X o t) (w : ∀ σ H Q, t' σ H Q → t σ H Q) : PO X o t' := ⟨fun pins s σ H Q I q => h.run pins s σ H Q I (w _ _ _ q)⟩
theorem O_none : POx κ X none po0 := po_mono po_none fun σ H Q ⟨δ, Z, z, E, d, hd, q⟩ => by cases hd; exact q H (.refl H)
theorem O_some (h : PX κ X e f) : POx κ X (some e) (po1 f) := po_mono (po_some h) fun σ H Q ⟨δ, Z, z, E, d, hd, q⟩ => by
  obtain ⟨y, h1, h2⟩ := Option.bind_eq_some_iff.mp hd
  refine ⟨δ, Z, z, E, y, h1, fun v H' e r => ?_⟩
  cases y <;> dsimp only at h2 <;> first | (cases h2; done) | skip
  cases h2
  exact ⟨_, r, q H' e⟩
theorem reps_cut {H : Hp} {ds : List D} {vs : List V} (lo hi : Option Int) (r : Reps κ H ds vs) : Reps κ H (cut ds lo hi) (cutV vs lo hi) := by
  unfold cut cutV
  have e : ∀ n d o, clip n d o = HT.sIx n d o := fun n d o => by cases o <;> rfl
  rw [e, e, r.length]
  exact (r.drop _).take _
theorem X_cut {lo hi : Option Expr} {fl fh : Ox} (he : PB κ X e f) (hl : POx κ X lo fl) (hh : POx κ X hi fh) : PX κ X (.Subscript e (.Slice lo hi none p2) pos) (xCut f fl fh) := pe_mono (pe_slice sl_list he hl hh) fun σ H Q ⟨δ, Z, z, E, d, hd, q⟩ => by
  obtain ⟨y, h1, h2⟩ := Option.bind_eq_some_iff.mp hd
  obtain ⟨l, h3, h4⟩ := Option.bind_eq_some_iff.mp h2
  obtain ⟨h, h5, h6⟩ := Option.bind_eq_some_iff.mp h4
  refine ⟨δ, Z, z, E, y, h1, fun v H1 e1 r => ⟨δ, Z, z.ext e1, E.ext e1, l, h3, fun H2 e2 => ⟨δ, Z, (z.ext e1).ext e2, (E.ext e1).ext e2, h, h5, fun H3 e3 => ?_⟩⟩⟩
  have r' := (r.ext e2).ext e3
  have z' := ((z.ext e1).ext e2).ext e3
  cases y <;> dsimp only at h6 <;> first | (cases h6; done) | skip
  cases h6
  obtain ⟨p, vs, rfl, hp, rs⟩ := r'
  exact ⟨p, vs, rfl, hp, fun p' hp' => q _ _ (((e1.trans e2).trans e3).trans (.upd hp')) (new_lst z' hp' (reps_cut l h rs))⟩
theorem X_rev {j : Nat} {q1 q2 q3 : Pos} (he : PB κ X e f) : PX κ X (.Subscript e (.Slice none none (some (.UnaryOp .USub (.Constant (.int 1) j q1) q2)) q3) pos) (x1 oRev f) := pe_mono (pe_revL he) fun σ H Q ⟨δ, Z, z, E, d, hd, q⟩ => by
  obtain ⟨y, h1, h2⟩ := Option.bind_eq_some_iff.mp hd
  refine ⟨δ, Z, z, E, y, h1, fun v H1 e1 r => ?_⟩
  cases y <;> simp only [oRev] at h2 <;> first | (cases h2; done) | skip
  cases h2
  obtain ⟨p, vs, rfl, hp, rs⟩ := r
  exact ⟨p, vs, rfl, hp, fun p' hp' => q _ _ (e1.trans (.upd hp')) (new_lst (z.ext e1) hp' rs.reverse)⟩
theorem X_neg1 {j : Nat} : PX κ X (.UnaryOp .USub (.Constant (.int 1) j p) pos) (xC (.int (-1))) := pe_mono (pe_un un_neg pe_int) fun σ H Q ⟨δ, Z, z, E, d, hd, q⟩ => by cases hd; exact ⟨1, rfl, q _ H (.refl H) rfl⟩
theorem repF_look {H : Hp} {n : Str} : ∀ {fs : List (Str × D)} {l : List (Str × V)} {d : D}, RepF κ H fs l → fs.lookup n = some d → ∃ v, l.lookup n = some v ∧ Rep κ H d v
  | [], _, _, _, e => by cases e
  | (k, x) :: r, _, d, ⟨v, t, e1, h1, h2⟩, e => by
    subst e1
    rw [List.lookup_cons] at e ⊢
    split at e
    · next hk => cases e; exact ⟨v, rfl, h1⟩
    · next hk => exact repF_look h2 e
theorem repF_no {H : Hp} {n : Str} : ∀ {fs : List (Str × D)} {l : List (Str × V)}, RepF κ H fs l → fs.lookup n = none → l.lookup n = none
  | [], _, h, _ => by subst h; rfl
  | (k, x) :: r, _, ⟨v, t, e1, h1, h2⟩, e => by
    subst e1
    rw [List.lookup_cons] at e ⊢
    split at e
    · cases e
    · next hk => exact repF_no h2 e
/-- the c-th class -/
def oFldC (c : Nat) (n : Str) : D → Option D
  | .obj c' fs => if c' = c then fs.lookup n else none
  | _ => none
theorem X_fld {cc : Nat} {n : Str} (hC : Cls X.K (κ cc)) (hn : NoAttr X.K (κ cc) n) (he : PB κ X e f) (hb : attributeBase e n X.env (eval e X.env) = eval e X.env := by rfl) : PX κ X (.Attribute e n pos) (x1 (oFldC cc n) f) := pe_mono (pe_fld he hb) fun σ H Q ⟨δ, Z, z, E, d, hd, q⟩ => by
  obtain ⟨y, h1, h2⟩ := Option.bind_eq_some_iff.mp hd
  refine ⟨δ, Z, z, E, y, h1, fun v H1 e1 r => ?_⟩
  cases y <;> simp only [oFldC] at h2 <;> first | (cases h2; done) | skip
  split at h2
  · next hc =>
    subst hc
    obtain ⟨p, dx, l, rfl, hp, rf⟩ := r
    obtain ⟨v, h3, h4⟩ := repF_look rf h2
    exact ⟨p, _, dx, l, v, rfl, hp, hC, hn, h3, q v H1 e1 h4⟩
  · cases h2
/-- what a def promises: of clean arguments a clean answer; nothing that stood is changed -/
def spP (κ : Kap) (F : List D → Option D) : Sp := fun vs H Q _ => ∃ (Z : Addr → Prop) (ds : List D), ZOk Z H ∧ Reps κ (hide Z H) ds vs ∧ ∃ d, F ds = some d ∧ ∀ v H', Ext H H' → Rep κ (hide Z H') d v → Q v H'
theorem X_call {x : Str} {fad : Addr} {fd : FuncData} {ps : List Str} {F : List D → Option D} {j : Nat} (kn : Kn X k) (Fo : FnOk X.prog X.w X.K X.mg X.base CX0 j fad fd ps (spP κ F)) (hj : j ≤ k) (hm : X.mg x = some (.ref fad)) (hk : PySem.W.keepIn X.K (.ref fad) = true) (hb : Binds X.K fd ps [])
    (hg : Gl X x) (ha : PAx κ X (e :: es) g) (hdb : (x == ("__debug__" : Str)) = false := by decide) (he : starEach (e :: es) X.env = (false, eval e X.env) :: starEach es X.env := by rfl) (hpl : (backTo pos (starEach es X.env)).any (·.1) = false := by rfl) : PX κ X (.Call (.Name x p) (e :: es) [] pos) (xL F g) :=
  pe_mono (pe_call Fo (kn.room.mono hj) hg hm hk hb .nil pass0 ha hdb he hpl) fun σ H Q ⟨δ, Z, z, E, d, hd, q⟩ => by
    obtain ⟨ds, h1, h2⟩ := Option.bind_eq_some_iff.mp hd
    exact ⟨δ, Z, z, E, ds, h1, fun vs H1 e1 r => ⟨Z, ds, z.ext e1, by rw [List.append_nil]; exact r, d, h2, fun v H' e2 r2 => q v H' (e1.trans e2) r2⟩⟩
theorem X_meth {pl : Sem Bool} {m : Str} {cc : Nat} {fad : Addr} {fd : FuncData} {ps : List Str} {F : List D → Option D} {j : Nat} {o : Expr} {fo : Ex} (kn : Kn X k) (Fo : FnOk X.prog X.w X.K X.mg X.base CX0 j fad fd ps (spP κ F)) (hj : j ≤ k) (hC : Cls X.K (κ cc)) (hM : Meth X.K (κ cc) m fad) (hb : Binds X.K fd ps [])
    (ho : PX κ X o fo) (ha : PAx κ X (e :: es) g) (hst : starEach (e :: es) X.env = (false, eval e X.env) :: starEach es X.env := by rfl) (hpl : (backTo pos (starEach es X.env)).any (·.1) = false := by rfl)
    (ht : eval (.Call (.Attribute o m apos) (e :: es) [] pos) X.env = (do
      let ov ← eval o X.env
      standAt apos.atName
      let (f, first) ← holding [ov] (getMethod ov m pl)
      callWith pos f first (backTo pos (starEach (e :: es) X.env)) (backToKw pos (keywordEach [] X.env))) := by rfl) : PX κ X (.Call (.Attribute o m apos) (e :: es) [] pos) (fun δ => (fo δ).bind fun s => (g δ).bind fun ds => match s with | .obj c' fs => if c' = cc ∧ fs.lookup m = none then F (s :: ds) else none | _ => none) :=
  pe_mono (pe_meth ho hC hM Fo (kn.room.mono hj) hb .nil pass0 ha hst hpl ht) fun σ H Q ⟨δ, Z, z, E, d, hd, q⟩ => by
    obtain ⟨s, h1, h2⟩ := Option.bind_eq_some_iff.mp hd
    obtain ⟨ds, h3, h4⟩ := Option.bind_eq_some_iff.mp h2
    refine ⟨δ, Z, z, E, s, h1, fun v H1 e1 r => ?_⟩
    cases s <;> dsimp only at h4 <;> first | (cases h4; done) | skip
    split at h4
    · next hc =>
      obtain ⟨rfl, hno⟩ := hc
      have r0 := r
      obtain ⟨pp, dx, l, rfl, hp, rf⟩ := r
      refine ⟨pp, dx, l, rfl, (hide_some.mp hp).2, repF_no rf hno, δ, Z, z.ext e1, E.ext e1, ds, h3, fun vs H2 e2 r2 => ⟨Z, _, (z.ext e1).ext e2, ?_, d, h4, fun u H' e3 r3 => q u H' ((e1.trans e2).trans e3) r3⟩⟩
      rw [List.append_nil]
      exact ⟨_, vs, rfl, Rep.ext e2 r0, r2⟩
    · cases h4
theorem X_meth0 {pl : Sem Bool} {m : Str} {cc : Nat} {fad : Addr} {fd : FuncData} {ps : List Str} {F : List D → Option D} {j : Nat} {o : Expr} {fo : Ex} (kn : Kn X k) (Fo : FnOk X.prog X.w X.K X.mg X.base CX0 j fad fd ps (spP κ F)) (hj : j ≤ k) (hC : Cls X.K (κ cc)) (hM : Meth X.K (κ cc) m fad) (hb : Binds X.K fd ps [])
    (ho : PX κ X o fo) (ht : eval (.Call (.Attribute o m apos) [] [] pos) X.env = (do
      let ov ← eval o X.env
      standAt apos.atName
      let (f, first) ← holding [ov] (getMethod ov m pl)
      callWith pos f first (backTo pos (starEach [] X.env)) (backToKw pos (keywordEach [] X.env))) := by rfl) : PX κ X (.Call (.Attribute o m apos) [] [] pos) (fun δ => (fo δ).bind fun s => match s with | .obj c' fs => if c' = cc ∧ fs.lookup m = none then F [s] else none | _ => none) :=
  pe_mono (pe_meth0 ho hC hM Fo (kn.room.mono hj) hb .nil pass0 ht) fun σ H Q ⟨δ, Z, z, E, d, hd, q⟩ => by
    obtain ⟨s, h1, h4⟩ := Option.bind_eq_some_iff.mp hd
    refine ⟨δ, Z, z, E, s, h1, fun v H1 e1 r => ?_⟩
    cases s <;> dsimp only at h4 <;> first | (cases h4; done) | skip
    split at h4
    · next hc =>
      obtain ⟨rfl, hno⟩ := hc
      have r0 := r
      obtain ⟨pp, dx, l, rfl, hp, rf⟩ := r
      refine ⟨pp, dx, l, rfl, (hide_some.mp hp).2, repF_no rf hno, Z, _, z.ext e1, ?_, d, h4, fun u H' e3 r3 => q u H' (e1.trans e3) r3⟩
      exact ⟨_, [], rfl, r0, rfl⟩
    · cases h4
end
end BP
namespace BP
open PySem L2
/-- own things are where they were -/
def Unc (σ : L2.St) (δ : En) (σ' : L2.St) (δ' : En) : Prop := ∀ (i : Nat) (s : Sl), δ'[i]? = some (some s) → slOwn s = true → δ[i]? = some (some s) ∧ σ'[i]? = σ[i]?
theorem Unc.refl (σ : L2.St) (δ : En) : Unc σ δ σ δ := fun _ _ h _ => ⟨h, rfl⟩
theorem Unc.trans {σ σ1 σ2 : L2.St} {δ δ1 δ2 : En} (a : Unc σ δ σ1 δ1) (b : Unc σ1 δ1 σ2 δ2) : Unc σ δ σ2 δ2 := fun i s h o => by
  obtain ⟨h1, h2⟩ := b i s h o
  obtain ⟨h3, h4⟩ := a i s h1 o
  exact ⟨h3, h2.trans h4⟩
theorem put_at {δ : En} {i j : Nat} {s t : Sl} (h : (δ.put i s)[j]? = some (some t)) : (j = i ∧ t = s) ∨ (j ≠ i ∧ δ[j]? = some (some t)) := by
  unfold En.put at h
  by_cases hj : i = j
  · subst hj
    have hl : i < δ.length := by
      have := (List.getElem?_eq_some_iff.mp h).1
      simpa using this
    rw [List.getElem?_set_self hl] at h
    cases h
    exact .inl ⟨rfl, rfl⟩
  · rw [List.getElem?_set_ne hj] at h
    exact .inr ⟨fun e => hj e.symm, h⟩
theorem set_at {σ : L2.St} {i j : Nat} {v : V} (hj : j ≠ i) : (σ.set i (some v))[j]? = σ[j]? := List.getElem?_set_ne fun e => hj e.symm
theorem set_me {σ : L2.St} {i : Nat} {v w : V} (h : (σ.set i (some v))[i]? = some (some w)) : w = v := by
  have hl : i < σ.length := by
    have := (List.getElem?_eq_some_iff.mp h).1
    simpa using this
  rw [List.getElem?_set_self hl] at h
  cases h; rfl
theorem Unc.put {σ : L2.St} {δ : En} {i : Nat} {v : V} {d : D} : Unc σ δ (σ.set i (some v)) (δ.put i (.sh d)) := fun j s h o => by
  rcases put_at h with ⟨rfl, rfl⟩ | ⟨n, h⟩
  · cases o
  · exact ⟨h, set_at n⟩
theorem Unc.wipe (σ : L2.St) (δ : En) (w : List Nat) : Unc σ δ (L2.wipe σ w) (δ.wipe w) := by
  induction w with
  | nil => exact .refl _ _
  | cons v vs ih =>
    intro i s h o
    unfold En.wipe at h
    unfold L2.wipe
    by_cases hv : v = i
    · subst hv
      have hl : v < (δ.wipe vs).length := by
        have := (List.getElem?_eq_some_iff.mp h).1
        simpa using this
      rw [List.getElem?_set_self hl] at h
      cases h
    · rw [List.getElem?_set_ne hv] at h ⊢
      exact ih i s h o
def tPG (K : PySem.W.Frag) (κ : Kap) (g : Gx) (ss : List Nat) : TG := fun v σ H Q => ∃ (δ : En) (Z : Addr → Prop) (d : D), ZOk Z H ∧ EnvR K κ H Z σ δ ∧ Rep κ (hide Z H) d v ∧ ∃ δ', g d δ = some δ' ∧ ∀ σ' H', Ext H H' → EnvR K κ H' Z σ' δ' → (∀ w : List Nat, (∀ i ∈ ss, i ∈ w) → L2.wipe σ' w = L2.wipe σ w) → Unc σ δ σ' δ' → Q σ' H'
def tPGs (K : PySem.W.Frag) (κ : Kap) (g : GLx) (ss : List Nat) : TGs := fun vs σ H Q => ∃ (δ : En) (Z : Addr → Prop) (ds : List D), ZOk Z H ∧ EnvR K κ H Z σ δ ∧ Reps κ (hide Z H) ds vs ∧ ∃ δ', g ds δ = some δ' ∧ ∀ σ' H', Ext H H' → EnvR K κ H' Z σ' δ' → (∀ w : List Nat, (∀ i ∈ ss, i ∈ w) → L2.wipe σ' w = L2.wipe σ w) → Unc σ δ σ' δ' → Q σ' H'
abbrev PGx (κ : Kap) (X : Cx) (tg : Expr) (g : Gx) (ss : List Nat) : Prop := PG X tg (tPG X.K κ g ss)
abbrev PGsx (κ : Kap) (X : Cx) (tg : List Expr) (g : GLx) (ss : List Nat) : Prop := PGs X tg (tPGs X.K κ g ss)
theorem wipe_out' {σ : L2.St} {i : Nat} : ∀ {w : List Nat}, i ∉ w → (L2.wipe σ w)[i]? = σ[i]?
  | [], _ => rfl
  | v :: vs, h => by
    unfold L2.wipe
    rw [List.getElem?_set_ne (by intro e; exact h (by simp [e])), wipe_out' (by intro q; exact h (List.mem_cons_of_mem _ q))]
theorem wipe_in {σ : L2.St} {i : Nat} (hi : i < σ.length) : ∀ {w : List Nat}, i ∈ w → (L2.wipe σ w)[i]? = some none
  | v :: vs, h => by
    unfold L2.wipe
    by_cases hv : v = i
    · subst hv; rw [List.getElem?_set_self (by rw [L2.wipe_length]; exact hi)]
    · rw [List.getElem?_set_ne hv]
      exact wipe_in hi (by rcases List.mem_cons.mp h with e | e; exact absurd e.symm hv; exact e)
theorem wipe_congr {σ σ' : L2.St} (w : List Nat) (hl : σ'.length = σ.length) (h : ∀ i, i ∉ w → σ'[i]? = σ[i]?) : L2.wipe σ' w = L2.wipe σ w := by
  apply List.ext_getElem?
  intro i
  by_cases hi : i ∈ w
  · by_cases hs : i < σ.length
    · rw [wipe_in hs hi, wipe_in (by rw [hl]; exact hs) hi]
    · rw [List.getElem?_eq_none (by rw [L2.wipe_length, hl]; omega), List.getElem?_eq_none (by rw [L2.wipe_length]; omega)]
  · rw [wipe_out' hi, wipe_out' hi, h i hi]
theorem wipe_wipe (σ : L2.St) (w : List Nat) : L2.wipe (L2.wipe σ w) w = L2.wipe σ w := wipe_congr w (L2.wipe_length σ w) fun i hi => wipe_out' hi
section
variable {κ : Kap} {X : Cx} {a b c e : Expr} {es : List Expr} {f fa fb fc : Ex} {pos p p2 p3 apos : Pos} {k : Nat}
theorem pg_mono {t t' : TG} (h : PG X e t) (w : ∀ v σ H Q, t' v σ H Q → t v σ H Q) : PG X e t' := ⟨fun pins s σ H v u Q I r q => h.run pins s σ H v u Q I r (w _ _ _ _ q)⟩
theorem pgs_mono {t t' : TGs} (h : PGs X es t) (w : ∀ v σ H Q, t' v σ H Q → t v σ H Q) : PGs X es t' := ⟨fun pins s σ H v u Q I r q => h.run pins s σ H v u Q I r (w _ _ _ _ q)⟩
theorem G_name (i : Nat) {x : Str} (hN : X.N.Nodup) (hi : X.N[i]? = some x := by rfl) (hx : Loc X.env.scope x := by first | exact Or.inl rfl | exact Or.inr rfl) (hf : X.fn x = true ∨ X.env.scope.names.lookup x = some .local := by first | exact .inl rfl | exact .inr rfl | assumption) : PGx κ X (.Name x pos) (gN i) [i] :=
  pg_mono (pg_name hN hi hx hf) fun v σ H Q ⟨δ, Z, d, z, E, r, δ', hd, q⟩ => by
    cases hd
    refine q _ H (.refl H) (E.put (i := i) (sl := .sh d) ⟨v, rfl, r⟩) (fun w hw => ?_) .put
    exact wipe_congr w (by simp) fun j hj => List.getElem?_set_ne (fun e : i = j => by subst e; exact hj (hw i (by simp)))
theorem Gs_nil : PGsx κ X [] gs0 [] := pgs_mono pgs_nil fun vs σ H Q ⟨δ, Z, ds, z, E, r, δ', hd, q⟩ => by
  cases ds with
  | nil => cases hd; exact ⟨r, q σ H (.refl H) E (fun _ _ => rfl) (.refl _ _)⟩
  | cons _ _ => cases hd
theorem Gs_cons {g : Gx} {gs : GLx} {s1 s2 : List Nat} (h1 : PGx κ X e g s1) (h2 : PGsx κ X es gs s2) (hs : (assignEach (e :: es) X.env).map (·.2) = assign e X.env :: (assignEach es X.env).map (·.2) := by rfl) : PGsx κ X (e :: es) (gsC g gs) (s1 ++ s2) :=
  pgs_mono (pgs_cons h1 h2 hs) fun vs σ H Q ⟨δ, Z, ds, z, E, r, δ', hd, q⟩ => by
    cases ds with
    | nil => cases hd
    | cons d t =>
      obtain ⟨v, rr, rfl, r1, r2⟩ := r
      obtain ⟨δ1, h3, h4⟩ := Option.bind_eq_some_iff.mp hd
      refine ⟨v, rr, rfl, δ, Z, d, z, E, r1, δ1, h3, fun σ1 H1 e1 E1 w1 u1 => ⟨δ1, Z, t, z.ext e1, E1, Reps.ext e1 r2, δ', h4, fun σ2 H2 e2 E2 w2 u2 => q σ2 H2 (e1.trans e2) E2 (fun w hw => ?_) (u1.trans u2)⟩⟩
      rw [w2 w fun i hi => hw i (List.mem_append_right _ hi), w1 w fun i hi => hw i (List.mem_append_left _ hi)]
theorem gsC_len {g : Gx} {gs : GLx} {n : Nat} (h : ∀ ds δ δ', gs ds δ = some δ' → ds.length = n) : ∀ ds δ δ', gsC g gs ds δ = some δ' → ds.length = n + 1 := fun ds δ δ' e => by
  cases ds with
  | nil => cases e
  | cons d t =>
    obtain ⟨δ1, h3, h4⟩ := Option.bind_eq_some_iff.mp e
    rw [List.length_cons, h t δ1 δ' h4]
theorem gs0_len : ∀ ds δ δ', gs0 ds δ = some δ' → ds.length = 0 := fun ds δ δ' e => by
  cases ds with
  | nil => rfl
  | cons _ _ => cases e
theorem G_tup {gs : GLx} {ss : List Nat} {n j : Nat} (hc : X.calm = true) (h : PGsx κ X es gs ss) (hl : ∀ ds δ δ', gs ds δ = some δ' → ds.length = n) (hn : (assignEach es X.env).length = n := by rfl) (hst : (assignEach es X.env).findIdx? (·.1) = none := by rfl) : PGx κ X (.Tuple es j pos) (gT gs) ss :=
  pg_mono (pg_tup hc h hn hst) fun v σ H Q ⟨δ, Z, d, z, E, r, δ', hd, q⟩ => by
    cases d <;> simp only [gT] at hd <;> first | (cases hd; done) | skip
    obtain ⟨p, vs, rfl, hp, rs⟩ := r
    exact ⟨p, vs, rfl, SqT.of (hide_some.mp hp).2, by rw [rs.length]; exact hl _ _ _ hd, δ, Z, _, z, E, rs, δ', hd, q⟩
/-- J yields the items ds, as long as what P says of H1 stands -/
def Wk (κ : Kap) (Z : Addr → Prop) (J : It) (H1 : Hp) (ds : List D) (P : Addr → Prop) : Prop := ∀ (Z' : Addr → Prop) (i : Nat) (H : Hp), (∀ a, H1 a ≠ none → Z' a → Z a) → ZOk Z' H → (∀ a o, P a → H1 a = some o → H a = some o) →
  (∀ d, ds[i]? = some d → J.go i H ∧ ∀ x H', J.yld i H x H' → Ext H H' ∧ Rep κ (hide Z' H') d x) ∧ (i = ds.length → J.stop i H)
theorem Wk.weak {κ : Kap} {Z : Addr → Prop} {J : It} {H1 : Hp} {ds : List D} {P P' : Addr → Prop} (h : Wk κ Z J H1 ds P) (w : ∀ a, P a → P' a) : Wk κ Z J H1 ds P' := fun Z' i H a b c => h Z' i H a b fun x o p => c x o (w x p)
/-- what is clean in H1 is clean later -/
theorem le_later {Z Z' : Addr → Prop} {H1 H : Hp} (hz : ∀ a, H1 a ≠ none → Z' a → Z a) (hk : ∀ a o, ¬ Z a → H1 a = some o → H a = some o) : Le (hide Z H1) (hide Z' H) := by
  have one : ∀ a o, hide Z H1 a = some o → hide Z' H a = some o := fun a o h => by
    obtain ⟨n, q⟩ := hide_some.mp h
    exact hide_some.mpr ⟨fun w => n (hz a (by rw [q]; exact fun e => nomatch e) w), hk a o n q⟩
  exact (show Ext _ _ from one).le
structure LenOk (K : PySem.W.Frag) (H : Hp) : Prop where
  lst : ∀ a xs, SqL K H a xs → xs.length ≤ sizeLine
  tup : ∀ a xs, SqT K H a xs → xs.length ≤ sizeLine
  dk : ∀ a l, Rd H a (.dK l) → l.length ≤ sizeLine
theorem len_ok {pins : List (Addr × Obj)} {σ : L2.St} {H : Hp} {s : Shared} (I : Inv X pins σ H s) : LenOk X.K H := ⟨fun a xs h => let ⟨_, _, _, h⟩ := I.list h; h, fun a xs h => let ⟨_, _, _, h⟩ := I.tuple h; h, fun a l h => (dk_rd I.hok h).1⟩
theorem pi_len {tg iter : Expr} {wi : TI} (h : PI X tg iter wi) : PI X tg iter (fun σ H R => wi σ H fun J H1 => LenOk X.K H1 → R J H1) := ⟨fun pins s σ H R I hw => by
  refine thn (h.run pins s σ H _ I hw) fun v s1 h1 => thn h1 fun itv s2 h2 => ?_
  obtain ⟨it, fp, tn, J, H2, e, I2, T, st2, f2, q⟩ := h2
  exact ⟨it, fp, tn, J, H2, e, I2, T, st2, f2, q (len_ok I2)⟩⟩
theorem pi_mono {tg iter : Expr} {t t' : TI} (h : PI X tg iter t) (w : ∀ σ H R, t' σ H R → t σ H R) : PI X tg iter t' := ⟨fun pins s σ H R I q => h.run pins s σ H R I (w _ _ _ q)⟩
/-- a walk; c: of a clean thing -/
def tI (K : PySem.W.Frag) (κ : Kap) (c : Bool) (src : Sx) : TI := fun σ H R => ∃ (δ : En) (Z : Addr → Prop), ZOk Z H ∧ EnvR K κ H Z σ δ ∧ ∃ ds, src δ = some ds ∧ ∀ J H1, Ext H H1 → ds.length ≤ sizeLine → Wk κ Z J H1 ds (fun a => c = true → ¬ Z a) → R J H1
abbrev PIx (κ : Kap) (X : Cx) (tg e : Expr) (c : Bool) (src : Sx) : Prop := PI X tg e (tI X.K κ c src)
theorem seqL_stay {K : PySem.W.Frag} {H1 H : Hp} {p : Addr} {vs : List V} (h : SqL K H1 p vs) (k : ∀ o, H1 p = some o → H p = some o) : SqL K H p vs := by
  rcases h with (h | ⟨o, h⟩) | h
  · exact .inl (.inl (k _ h))
  · exact .inl (.inr ⟨o, k _ h⟩)
  · exact .inr h
theorem sql_inj {K : PySem.W.Frag} {pins : List (Addr × Obj)} {σ : L2.St} {H : Hp} {s : Shared} (I : Inv X pins σ H s) {a : Addr} {xs ys : List V} (h : SqL X.K H a xs) (h' : SqL X.K H a ys) : xs = ys := I.list_inj h h'
/-- the walk of a list -/
theorem wk_list {K : PySem.W.Frag} {Z : Addr → Prop} {H1 : Hp} {p : Addr} {vs : List V} {ds : List D} {c : Bool} (hp : SqL K H1 p vs) (hc : c = true → ¬ Z p) (rs : Reps κ (hide Z H1) ds vs) : Wk κ Z (Itl K p) H1 ds (fun a => c = true → ¬ Z a) := fun Z' i H hz z hk => by
  have kp : ∀ o, H1 p = some o → H p = some o := fun o e => hk p o hc e
  have sq := seqL_stay hp kp
  have le : Le (hide Z H1) (hide Z' H) := le_later hz fun a o n e => hk a o (fun _ => n) e
  refine ⟨fun d hd => ?_, fun hl0 => have hl := Nat.le_of_eq (Eq.symm hl0); ⟨vs, sq, by rw [rs.length]; exact hl⟩⟩
  obtain ⟨v, h1, h2⟩ := rs.get hd
  refine ⟨⟨vs, v, sq, h1⟩, fun x H' ⟨e, y⟩ => ?_⟩
  subst e
  have := y vs sq
  rw [h1] at this
  cases this
  exact ⟨.refl _, Rep.le le _ _ h2⟩
theorem wk_tup {K : PySem.W.Frag} {Z : Addr → Prop} {H1 : Hp} {p : Addr} {vs : List V} {ds : List D} {c : Bool} (hp : H1 p = some (.tup vs)) (hc : c = true → ¬ Z p) (rs : Reps κ (hide Z H1) ds vs) : Wk κ Z (Itt K p) H1 ds (fun a => c = true → ¬ Z a) := fun Z' i H hz z hk => by
  have sq : SqT K H p vs := SqT.of (hk p _ hc hp)
  have le : Le (hide Z H1) (hide Z' H) := le_later hz fun a o n e => hk a o (fun _ => n) e
  refine ⟨fun d hd => ?_, fun hl0 => have hl := Nat.le_of_eq (Eq.symm hl0); ⟨vs, sq, by rw [rs.length]; exact hl⟩⟩
  obtain ⟨v, h1, h2⟩ := rs.get hd
  refine ⟨⟨vs, v, sq, h1⟩, fun x H' ⟨e, y⟩ => ?_⟩
  subst e
  have := y vs sq
  rw [h1] at this
  cases this
  exact ⟨.refl _, Rep.le le _ _ h2⟩
theorem wk_range {Z : Addr → Prop} {H1 : Hp} {lo : Int} : ∀ {n : Nat} {P : Addr → Prop}, Wk κ Z (Itr lo n) H1 (upTo lo n) P := fun {n P} Z' i H hz z hk => by
  have key : ∀ (n : Nat) (lo : Int) (i : Nat) (d : D), (upTo lo n)[i]? = some d → i < n ∧ d = .int (lo + i) := by
    intro n
    induction n with
    | zero => intro lo i d h; simp [upTo] at h
    | succ n ih =>
      intro lo i d h
      cases i with
      | zero => simp [upTo] at h; subst h; exact ⟨Nat.succ_pos _, by simp⟩
      | succ i =>
        simp only [upTo, List.getElem?_cons_succ] at h
        obtain ⟨h1, h2⟩ := ih _ _ _ h
        exact ⟨Nat.succ_lt_succ h1, by rw [h2]; congr 1; omega⟩
  have len : ∀ (n : Nat) (lo : Int), (upTo lo n).length = n := by
    intro n
    induction n with
    | zero => intro lo; rfl
    | succ n ih => intro lo; simp [upTo, ih]
  refine ⟨fun d hd => ?_, fun hl0 => have hl := Nat.le_of_eq (Eq.symm hl0); by rw [len] at hl; exact hl⟩
  obtain ⟨h1, h2⟩ := key _ _ _ _ hd
  subst h2
  refine ⟨h1, fun x H' ⟨e, y⟩ => ?_⟩
  subst e y
  exact ⟨.refl _, rfl⟩
theorem wk_str {Z : Addr → Prop} {H1 : Hp} {s : Str} {P : Addr → Prop} : Wk κ Z (Its s) H1 (s.cps.toList.map fun c => .str ⟨#[c]⟩) P := fun Z' i H hz z hk => by
  refine ⟨fun d hd => ?_, fun hl0 => have hl := Nat.le_of_eq (Eq.symm hl0); (by simpa using hl : s.cps.size ≤ i)⟩
  rw [List.getElem?_map] at hd
  obtain ⟨c, h1, h2⟩ := Option.map_eq_some_iff.mp hd
  subst h2
  have h1' : s.cps[i]? = some c := by simpa using h1
  refine ⟨(Array.getElem?_eq_some_iff.mp h1').1, fun x H' ⟨e, c', y1, y2⟩ => ?_⟩
  subst e y2
  rw [h1'] at y1
  cases y1
  exact ⟨.refl _, rfl⟩
theorem wk_enum {K : PySem.W.Frag} {Z : Addr → Prop} {H1 : Hp} {p : Addr} {vs : List V} {ds : List D} {c : Bool} (hp : SqL K H1 p vs) (hc : c = true → ¬ Z p) (rs : Reps κ (hide Z H1) ds vs) : Wk κ Z (Ite K p) H1 (enumFrom 0 ds) (fun a => c = true → ¬ Z a) := fun Z' i H hz z hk => by
  have kp : ∀ o, H1 p = some o → H p = some o := fun o e => hk p o hc e
  have sq := seqL_stay hp kp
  have le : Le (hide Z H1) (hide Z' H) := le_later hz fun a o n e => hk a o (fun _ => n) e
  have key : ∀ (ds : List D) (k i : Nat) (d : D), (enumFrom k ds)[i]? = some d → ∃ e, ds[i]? = some e ∧ d = .tup [.int ((k + i : Nat) : Int), e] := by
    intro ds
    induction ds with
    | nil => intro k i d h; simp [enumFrom] at h
    | cons x r ih =>
      intro k i d h
      cases i with
      | zero => simp [enumFrom] at h; subst h; exact ⟨x, rfl, rfl⟩
      | succ i =>
        simp only [enumFrom, List.getElem?_cons_succ] at h
        obtain ⟨e, h1, h2⟩ := ih _ _ _ h
        exact ⟨e, by simpa using h1, by rw [h2, show k + 1 + i = k + (i + 1) by omega]⟩
  have len : ∀ (ds : List D) (k : Nat), (enumFrom k ds).length = ds.length := by
    intro ds
    induction ds with
    | nil => intro k; rfl
    | cons x r ih => intro k; simp [enumFrom, ih]
  refine ⟨fun d hd => ?_, fun hl0 => have hl := Nat.le_of_eq (Eq.symm hl0); ⟨vs, sq, by rw [rs.length]; rw [len] at hl; exact hl⟩⟩
  obtain ⟨e, h0, rfl⟩ := key _ _ _ _ hd
  obtain ⟨v, h1, h2⟩ := rs.get h0
  refine ⟨⟨vs, v, sq, h1⟩, fun x H' ⟨T, x', e1, hT, e2, y⟩ => ?_⟩
  subst e1 e2
  have := y vs sq
  rw [h1] at this
  cases this
  refine ⟨.upd hT, T, _, rfl, hide_new z hT, .int (i : Nat), _, rfl, ?_, v, [], rfl, Rep.ext (.upd hT) (Rep.le le _ _ h2), rfl⟩
  show V.int _ = V.int _
  simp
theorem I_list {tg : Expr} (ha : PX κ X e f) : PIx κ X tg e true (fun δ => (f δ).bind fun d => match d with | .lst ds => some ds | _ => none) := pi_mono (pi_len (pi_list ha)) fun σ H R ⟨δ, Z, z, E, ds, hd, q⟩ => by
  obtain ⟨y, h1, h2⟩ := Option.bind_eq_some_iff.mp hd
  refine ⟨δ, Z, z, E, y, h1, fun v H1 e1 r => ?_⟩
  cases y <;> dsimp only at h2 <;> first | (cases h2; done) | skip
  cases h2
  obtain ⟨p, vs, rfl, hp, rs⟩ := r
  obtain ⟨n, hp'⟩ := hide_some.mp hp
  exact ⟨p, rfl, ⟨vs, SqL.of hp'⟩, fun l => q _ _ e1 (by rw [← rs.length]; exact l.lst p vs (SqL.of hp')) (wk_list (SqL.of hp') (fun _ => n) rs)⟩
theorem I_listB {tg : Expr} (ha : PB κ X e f) : PIx κ X tg e false (fun δ => (f δ).bind fun d => match d with | .lst ds => some ds | _ => none) := pi_mono (pi_len (pi_list ha)) fun σ H R ⟨δ, Z, z, E, ds, hd, q⟩ => by
  obtain ⟨y, h1, h2⟩ := Option.bind_eq_some_iff.mp hd
  refine ⟨δ, Z, z, E, y, h1, fun v H1 e1 r => ?_⟩
  cases y <;> dsimp only at h2 <;> first | (cases h2; done) | skip
  cases h2
  obtain ⟨p, vs, rfl, hp, rs⟩ := r
  exact ⟨p, rfl, ⟨vs, hp⟩, fun l => q _ _ e1 (by rw [← rs.length]; exact l.lst p vs hp) (wk_list hp (fun e => nomatch e) rs)⟩
theorem I_tup {tg : Expr} (ha : PX κ X e f) : PIx κ X tg e true (fun δ => (f δ).bind fun d => match d with | .tup ds => some ds | _ => none) := pi_mono (pi_len (pi_tup ha)) fun σ H R ⟨δ, Z, z, E, ds, hd, q⟩ => by
  obtain ⟨y, h1, h2⟩ := Option.bind_eq_some_iff.mp hd
  refine ⟨δ, Z, z, E, y, h1, fun v H1 e1 r => ?_⟩
  cases y <;> dsimp only at h2 <;> first | (cases h2; done) | skip
  cases h2
  obtain ⟨p, vs, rfl, hp, rs⟩ := r
  obtain ⟨n, hp'⟩ := hide_some.mp hp
  exact ⟨p, rfl, ⟨vs, SqT.of hp'⟩, fun l => q _ _ e1 (by rw [← rs.length]; exact l.tup p vs (SqT.of hp')) (wk_tup hp' (fun _ => n) rs)⟩
theorem I_str {tg : Expr} (ha : PX κ X e f) : PIx κ X tg e true (sStr f) := pi_mono (pi_len (pi_str ha)) fun σ H R ⟨δ, Z, z, E, ds, hd, q⟩ => by
  obtain ⟨y, h1, h2⟩ := Option.bind_eq_some_iff.mp hd
  refine ⟨δ, Z, z, E, y, h1, fun v H1 e1 r => ?_⟩
  cases y <;> dsimp only at h2 <;> first | (cases h2; done) | skip
  split at h2
  · next hl =>
    cases h2
    exact ⟨_, r, fun l => q _ _ e1 (by simpa using most_ok hl) wk_str⟩
  · cases h2
theorem I_enum {t1 t2 : Expr} {j : Nat} {g : Sx} (hg : Gl X "enumerate") (hm : X.mg "enumerate" = none) (ha : PAx κ X [e] g) (hs : starEach [e] X.env = [(false, eval e X.env)] := by rfl) : PIx κ X (.Tuple [t1, t2] j p2) (.Call (.Name "enumerate" p) [e] [] pos) true (fun δ => (g δ).bind fun d => match d with | [.lst ds] => some (enumFrom 0 ds) | _ => none) := pi_mono (pi_len (pi_enum hg hm ha hs)) fun σ H R ⟨δ, Z, z, E, ds, hd, q⟩ => by
  obtain ⟨y, h1, h2⟩ := Option.bind_eq_some_iff.mp hd
  refine ⟨δ, Z, z, E, y, h1, fun vs H1 e1 r => ?_⟩
  split at h2
  · next es =>
    cases h2
    obtain ⟨v, t, rfl, ⟨p, us, rfl, hp, rs⟩, rfl⟩ := r
    obtain ⟨n, hp'⟩ := hide_some.mp hp
    refine ⟨p, us, rfl, SqL.of hp', fun l => q _ _ e1 ?_ (wk_enum (SqL.of hp') (fun _ => n) rs)⟩
    have : ∀ (ds : List D) (k : Nat), (enumFrom k ds).length = ds.length := by
      intro ds
      induction ds with
      | nil => intro k; rfl
      | cons x r ih => intro k; simp [enumFrom, ih]
    rw [this, ← rs.length]
    exact l.lst p us (SqL.of hp')
  · cases h2
theorem I_range1 {tg : Expr} {g : Sx} (hg : Gl X "range") (hm : X.mg "range" = none) (ha : PAx κ X [e] g) (hs : starEach [e] X.env = [(false, eval e X.env)] := by rfl) : PIx κ X tg (.Call (.Name "range" p) [e] [] pos) true (fun δ => (g δ).bind fun d => match d with | [.int j] => if 0 ≤ j ∧ j ≤ 100000 then some (upTo 0 j.toNat) else none | _ => none) := pi_mono (pi_range1 hg hm ha hs) fun σ H R ⟨δ, Z, z, E, ds, hd, q⟩ => by
  obtain ⟨y, h1, h2⟩ := Option.bind_eq_some_iff.mp hd
  refine ⟨δ, Z, z, E, y, h1, fun vs H1 e1 r => ?_⟩
  have len : ∀ (n : Nat) (lo : Int), (upTo lo n).length = n := by
    intro n
    induction n with
    | zero => intro lo; rfl
    | succ n ih => intro lo; simp [upTo, ih]
  split at h2
  · next j =>
    split at h2
    · next hj =>
      cases h2
      obtain ⟨v, t, rfl, rv, rfl⟩ := r
      rw [show v = .int j from rv]
      exact ⟨j, rfl, by omega, by omega, q _ _ e1 (by rw [len]; exact most_ok (show j.toNat ≤ 100000 by omega)) wk_range⟩
    · cases h2
  · cases h2
end
end BP
namespace BP
open PySem L2
section
variable {K : PySem.W.Frag} {κ : Kap}
/-- one more address is hidden, one that did not stand -/
theorem hide_add {Z : Addr → Prop} {H : Hp} {D : Addr} (h : H D = none) : hide (fun a => Z a ∨ a = D) H = hide Z H := by
  funext a
  unfold hide
  by_cases hz : Z a
  · rw [if_pos hz, if_pos (Or.inl hz)]
  · by_cases hd : a = D
    · subst hd; rw [if_pos (Or.inr rfl), if_neg hz, h]
    · rw [if_neg hz, if_neg (by simp [hz, hd])]
theorem SlR.add {H : Hp} {Z : Addr → Prop} {o : Option (Option V)} {D : Addr} (h : H D = none) {sl : Sl} (r : SlR K κ H Z o sl) : SlR K κ H (fun a => Z a ∨ a = D) o sl := by
  cases sl with
  | sh d => obtain ⟨v, a, b⟩ := r; exact ⟨v, a, by rw [hide_add h]; exact b⟩
  | ol ds => obtain ⟨a, vs, q, z, b, c⟩ := r; exact ⟨a, vs, q, .inl z, b, by rw [hide_add h]; exact c⟩
  | od ds => obtain ⟨a, vs, q, z, b, c⟩ := r; exact ⟨a, vs, q, .inl z, b, by rw [hide_add h]; exact c⟩
  | ot ds => obtain ⟨a, vs, q, z, b, c⟩ := r; exact ⟨a, vs, q, .inl z, b, by rw [hide_add h]; exact c⟩
  | on ds => obtain ⟨a, vs, q, z, b, c⟩ := r; exact ⟨a, vs, q, .inl z, b, by rw [hide_add h]; exact c⟩
  | oo a0 c fs => obtain ⟨a, dx, vs, q, z, b, c⟩ := r; exact ⟨a, dx, vs, q, .inl z, b, by rw [hide_add h]; exact c⟩
theorem EnvR.add {H : Hp} {Z : Addr → Prop} {σ : L2.St} {δ : En} {D : Addr} (E : EnvR K κ H Z σ δ) (h : H D = none) : EnvR K κ H (fun a => Z a ∨ a = D) σ δ := ⟨E.len, fun i sl e => (E.at_ i sl e).add h⟩
theorem le_sub {Z Z' : Addr → Prop} {H : Hp} (h : ∀ a, Z a → Z' a) : Le (hide Z' H) (hide Z H) := (show Ext _ _ from fun a o e => by
  obtain ⟨n, q⟩ := hide_some.mp e
  exact hide_some.mpr ⟨fun z => n (h a z), q⟩).le
/-- the reading of a list comprehension behind its iterator -/
theorem lc_rd {g : Gx} {ss w : List Nat} {pt : Tx} {f : Ex} {σ : L2.St} {δ : En} {Z : Addr → Prop} {J : It} {H1 : Hp} {ds ys : List D} (z : ZOk Z H1) (E : EnvR K κ H1 Z σ δ) (hlen : ds.length ≤ sizeLine) (wk : Wk κ Z J H1 ds (fun _ => True))
    (hy : cL g pt f (δ.wipe w) ds = some ys) (hss : ∀ i ∈ ss, i ∈ w) {D : Addr} (hD : H1 D = none) {Qd : Hp → Prop} (hq : ∀ H', Ext H1 H' → Rep κ (hide Z H') (.lst ys) (.ref D) → Qd H') :
    ∃ W : Nat → Nat → Hp → Prop, (∃ m, W 0 m (upd H1 D (.lst []))) ∧ ∀ i m H, W i m H → (J.stop i H ∧ Qd H) ∨ (J.go i H ∧ ∃ Nx : Hp → Prop, (∀ H', Nx H' → ∃ m', m' < m ∧ W (i + 1) m' H') ∧ ∀ x H', J.yld i H x H' →
      tPG K κ g ss x (L2.wipe σ w) H' fun σ2 H2 => L2.wipe σ2 w = L2.wipe σ w ∧ tPT K κ pt σ2 H2 fun b H3 =>
        if b = true then tPX K κ f σ2 H3 fun y H4 => ∃ acc, H4 D = some (.lst acc) ∧ acc.length < sizeLine ∧ Nx (upd H4 D (.lst (acc ++ [y]))) else Nx H3) := by
  have zD : ¬ Z D := z.fresh hD
  have nD : ∀ a o, H1 a = some o → a ≠ D := fun a o e h => by subst h; rw [hD] at e; cases e
  -- the hidden ones within
  have hz : ∀ a, H1 a ≠ none → (Z a ∨ a = D) → Z a := fun a h q => q.resolve_right fun e => h (by rw [e]; exact hD)
  have E1 : EnvR K κ H1 (fun a => Z a ∨ a = D) (L2.wipe σ w) (δ.wipe w) := (E.wipe w).add hD
  let In : Nat → Hp → Prop := fun i H => i ≤ ds.length ∧ Ext H1 H ∧ ∃ (vs : List V) (done rest : List BP.D), H D = some (.lst vs) ∧ vs.length ≤ i ∧ Reps κ (hide (fun a => Z a ∨ a = D) H) done vs ∧ cL g pt f (δ.wipe w) (ds.drop i) = some rest ∧ done ++ rest = ys
  have zIn : ∀ {H : Hp} {vs : List V}, Ext H1 H → H D = some (.lst vs) → ZOk (fun a => Z a ∨ a = D) H := fun {H vs} e hd a h => by
    rcases h with h | h
    · exact (z.ext e) a h
    · subst h; exact ⟨_, hd, fun xs e => nomatch e⟩
  refine ⟨fun i m H => m = ds.length - i ∧ In i H, ⟨ds.length, by simp, Nat.zero_le _, .upd hD, [], [], ys, upd_same, Nat.le_refl _, rfl, by simpa using hy, rfl⟩, ?_⟩
  rintro i m H ⟨rfl, hi, e, vs, done, rest, hd, hv, hr, hc, hs⟩
  have zz := zIn e hd
  obtain ⟨go, stop⟩ := wk _ i H hz zz fun a o _ h => e a o h
  by_cases hlt : i < ds.length
  · have hg : ds[i]? = some ds[i] := by simp [hlt]
    obtain ⟨hgo, hyld⟩ := go _ hg
    rw [List.drop_eq_getElem_cons hlt] at hc
    obtain ⟨δ', h1, h2⟩ := Option.bind_eq_some_iff.mp hc
    obtain ⟨b, h3, h4⟩ := Option.bind_eq_some_iff.mp h2
    refine .inr ⟨hgo, In (i + 1), fun H' n => ⟨ds.length - (i + 1), by omega, rfl, n⟩, fun x H' yl => ?_⟩
    obtain ⟨e2, rx⟩ := hyld x H' yl
    refine ⟨δ.wipe w, _, ds[i], zz.ext e2, E1.ext (e.trans e2), rx, δ', h1, fun σ2 H2 e3 E2 w2 _ => ⟨(w2 w hss).trans (wipe_wipe σ w), δ', _, (zz.ext e2).ext e3, E2, b, h3, fun H3 e4 => ?_⟩⟩
    have e24 := (e2.trans e3).trans e4
    have hd3 := e24 _ _ hd
    have ee := e.trans e24
    cases b with
    | true =>
      rw [if_pos rfl] at h4
      refine iteT ?_
      obtain ⟨y, h5, h6⟩ := Option.bind_eq_some_iff.mp h4
      obtain ⟨ys', h7, h8⟩ := Option.bind_eq_some_iff.mp h6
      cases h8
      refine ⟨δ', _, zz.ext e24, E2.ext e4, y, h5, fun v H4 e5 r => ⟨vs, e5 _ _ hd3, by omega, by omega, ?_, vs ++ [v], done ++ [y], ys', upd_same, by simp; omega, ?_, h7, by simpa using hs⟩⟩
      · intro a o h
        rw [upd_ne (nD a o h)]
        exact (ee.trans e5) a o h
      · have le : Le (hide (fun a => Z a ∨ a = D) H4) (hide (fun a => Z a ∨ a = D) (upd H4 D (.lst (vs ++ [v])))) := (show ExtZ _ _ _ from fun a o n h => by rw [upd_ne (fun q => n (.inr q))]; exact h).le
        exact Reps.le le _ _ ((Reps.ext (e24.trans e5) hr).snoc r)
    | false =>
      rw [if_neg Bool.false_ne_true] at h4
      refine iteF ?_
      exact ⟨by omega, ee, vs, done, rest, hd3, by omega, Reps.ext e24 hr, h4, hs⟩
  · have hl : i = ds.length := by omega
    subst hl
    rw [List.drop_length] at hc
    cases hc
    rw [List.append_nil] at hs
    subst hs
    refine .inl ⟨stop rfl, hq H e ⟨D, vs, rfl, hide_some.mpr ⟨zD, hd⟩, Reps.le (le_sub fun a h => .inl h) _ _ hr⟩⟩
end
section
variable {κ : Kap} {X : Cx} {a b c e : Expr} {es : List Expr} {f fa fb fc : Ex} {pos p p2 p3 apos : Pos} {k : Nat}
abbrev PTsx (κ : Kap) (X : Cx) (ifs : List Expr) (t : Tx) : Prop := PTs X ifs (tPT X.K κ t)
theorem pts_mono {ifs : List Expr} {t t' : TT} (h : PTs X ifs t) (w : ∀ σ H Q, t' σ H Q → t σ H Q) : PTs X ifs t' := ⟨fun pins s σ H Q I q => h.run pins s σ H Q I (w _ _ _ q)⟩
theorem Ts_nil : PTsx κ X [] tTrue := pts_mono pts_nil fun σ H Q ⟨δ, Z, z, E, b, hd, q⟩ => by cases hd; exact q H (.refl H)
theorem Ts_one {t : Tx} (h : PTx κ X c t) : PTsx κ X [c] t := pts_one h
theorem Kn.blk (kn : Kn X k) (s : Shared) (H : Hp) (scope : Scope) (ce : Env) (fp : List Addr) : Kn (X.blk s H scope ce fp) k := ⟨kn.calm, kn.nd, kn.room⟩
theorem lc_of {K : PySem.W.Frag} {cc : Bool} {src : Sx} {g : Gx} {ss w : List Nat} {pt : Tx} (hss : ∀ i ∈ ss, i ∈ w) {σ : L2.St} {H : Hp} {Q : VK} (h : tPX K κ (xLc src w g pt f) σ H Q) : tLc (tI K κ cc src) (tPG K κ g ss) (tPT K κ pt) (tPX K κ f) w σ H Q := by
  obtain ⟨δ, Z, z, E, d, hd, q⟩ := h
  obtain ⟨ds, h1, h2⟩ := Option.bind_eq_some_iff.mp hd
  obtain ⟨ys, h3, h4⟩ := Option.map_eq_some_iff.mp h2
  subst h4
  exact ⟨δ, Z, z, E, ds, h1, fun J H1 e1 hlen wk D hD => lc_rd (z.ext e1) (E.ext e1) hlen (wk.weak fun _ _ => trivial) h3 hss hD fun H' e2 r => q _ H' (e1.trans e2) r⟩
/-- [elt for tg in iter if ..] -/
theorem X_lc {elt tg iter : Expr} {ifs : List Expr} {scope : Scope} {own : List (Str × Nat)} {cc : Bool} {src : Sx} {g : Gx} {ss : List Nat} {pt : Tx} (kn : Kn X k) (hi : PIx κ X tg iter cc src) (ok : BlkOk X.N X.env.scope scope own)
    (hg : ∀ (s : Shared) (H : Hp) (C : Addr) (cl : List (Str × Addr)) (fp : List Addr), PGx κ (X.blk s H scope (compEnvC scope cl C X.env) fp) tg g ss) (ht : ∀ (s : Shared) (H : Hp) (C : Addr) (cl : List (Str × Addr)) (fp : List Addr), PTsx κ (X.blk s H scope (compEnvC scope cl C X.env) fp) ifs pt)
    (he : ∀ (s : Shared) (H : Hp) (C : Addr) (cl : List (Str × Addr)) (fp : List Addr), PX κ (X.blk s H scope (compEnvC scope cl C X.env) fp) elt f) (hss : ∀ i ∈ ss, i ∈ own.map (·.2) := by decide) (hs : ∀ x, foldedSetIterable iter X.env x = pure x := by intro _; rfl) :
    PX κ X (.ListComp elt [⟨tg, iter, ifs, 0⟩] scope pos) (xLc src (own.map (·.2)) g pt f) := pe_mono (pe_lc kn.calm kn.nd hi ok hg ht he hs) fun σ H Q h => lc_of hss h
/-- P tells the value of e in a state, whatever dict is locked; it is clean -/
structure PEk (κ : Kap) (X : Cx) (e : Expr) (f : Ex) (P : L2.St → Hp → V → Prop) : Prop where
  run : PE X e (fun σ H Q => ∃ v, P σ H v ∧ Q v H)
  lock : ∀ σ H p l od v, H p = some (.dK l) → P σ H v → P σ (upd H p (.frz od (.dK l))) v
  rep : ∀ σ H Z δ d, EnvR X.K κ H Z σ δ → f δ = some d → ∃ v, P σ H v ∧ Rep κ (hide Z H) d v
theorem K_var (i : Nat) {x : Str} (hN : X.N[i]? = some x := by rfl) (hv : Vis X.env.scope x := by first | exact Or.inl rfl | exact Or.inr (Or.inl rfl) | exact Or.inr (Or.inr rfl)) (hd : (x == ("__debug__" : Str)) = false := by decide)
    (hcd : (x == ("__classdict__" : Str)) = false := by decide) : PEk κ X (.Name x pos) (xVar i) (fun σ _ v => σ[i]? = some (some v)) where
  run := pe_var hN hv hd hcd
  lock := fun _ _ _ _ _ _ _ h => h
  rep := fun σ H Z δ d E h => E.sh h
theorem K_fld {cc : Nat} {n : Str} {P : L2.St → Hp → V → Prop} (hC : Cls X.K (κ cc)) (hn : NoAttr X.K (κ cc) n) (he : PEk κ X e f P) (hb : attributeBase e n X.env (eval e X.env) = eval e X.env := by rfl) : PEk κ X (.Attribute e n pos) (x1 (oFldC cc n) f) (fun σ H v => ∃ p dx l, P σ H (.ref p) ∧ H p = some (.ins (κ cc) dx l) ∧ l.lookup n = some v) where
  run := pe_mono (pe_fld he.run hb) fun σ H Q ⟨v, ⟨p, dx, l, h1, h2, h3⟩, q⟩ => ⟨_, h1, p, κ cc, dx, l, v, rfl, h2, hC, hn, h3, q⟩
  lock := fun σ H p l od v hp ⟨p', dx, l', h1, h2, h3⟩ => ⟨p', dx, l', he.lock _ _ _ _ _ _ hp h1, by rw [upd_ne (fun z => by rw [z, hp] at h2; cases h2)]; exact h2, h3⟩
  rep := fun σ H Z δ d E h => by
    obtain ⟨y, h1, h2⟩ := Option.bind_eq_some_iff.mp h
    obtain ⟨v, hv, r⟩ := he.rep σ H Z δ y E h1
    cases y <;> simp only [oFldC] at h2 <;> first | (cases h2; done) | skip
    split at h2
    · next hc =>
      subst hc
      obtain ⟨p, dx, l, rfl, hp, rf⟩ := r
      obtain ⟨v, h3, h4⟩ := repF_look rf h2
      exact ⟨v, ⟨p, dx, l, hv, (hide_some.mp hp).2, h3⟩, h4⟩
    · cases h2
/-- an item by a written number, of a tuple -/
theorem K_ixT {i : Int} {j : Nat} {P : L2.St → Hp → V → Prop} (he : PEk κ X e f P) : PEk κ X (.Subscript e (.Constant (.int i) j p) pos) (x2 oIxT f (xC (.int i))) (fun σ H v => ∃ q xs, P σ H (.ref q) ∧ H q = some (.tup xs) ∧ atI xs i = some v) where
  run := pe_mono (pe_ix ix_tup he.run pe_int (fun _ _ => rfl)) fun σ H Q ⟨v, ⟨q, xs, h1, h2, h3⟩, k⟩ => ⟨_, h1, q, xs, i, v, rfl, rfl, SqT.of h2, h3, k⟩
  lock := fun σ H p l od v hp ⟨q, xs, h1, h2, h3⟩ => ⟨q, xs, he.lock _ _ _ _ _ _ hp h1, by rw [upd_ne (fun z => by rw [z, hp] at h2; cases h2)]; exact h2, h3⟩
  rep := fun σ H Z δ d E h => by
    obtain ⟨y, y2, h1, h2, h3⟩ := x2_some h
    cases h2
    obtain ⟨v, hv, r⟩ := he.rep σ H Z δ y E h1
    cases y <;> simp only [oIxT] at h3 <;> first | (cases h3; done) | skip
    obtain ⟨jj, h4, h5⟩ := Option.bind_eq_some_iff.mp h3
    obtain ⟨q, vs, rfl, hp, rs⟩ := r
    obtain ⟨v, h6, h7⟩ := rs.get h5
    refine ⟨v, ⟨q, vs, hv, (hide_some.mp hp).2, ?_⟩, h7⟩
    unfold atI
    rw [rs.length]
    exact Option.bind_eq_some_iff.mpr ⟨jj, h4, h6⟩
/-- .. of a list, the index a number in a slot -/
theorem K_ixL {i : Nat} {x : Str} {P : L2.St → Hp → V → Prop} (he : PEk κ X e f P) (hN : X.N[i]? = some x := by rfl) (hv : Vis X.env.scope x := by first | exact Or.inl rfl | exact Or.inr (Or.inl rfl) | exact Or.inr (Or.inr rfl)) (hd : (x == ("__debug__" : Str)) = false := by decide)
    (hcd : (x == ("__classdict__" : Str)) = false := by decide) : PEk κ X (.Subscript e (.Name x p) pos) (x2 oIxL f (xVar i)) (fun σ H v => ∃ (q : Addr) (xs : List V) (n : Int), P σ H (.ref q) ∧ σ[i]? = some (some (.int n)) ∧ H q = some (.lst xs) ∧ atI xs n = some v) where
  run := pe_mono (pe_ix ix_list he.run (pe_var hN hv hd hcd) (fun _ _ => rfl)) fun σ H Q ⟨v, ⟨q, xs, n, h1, hn, h2, h3⟩, k⟩ => ⟨_, h1, .int n, hn, q, xs, n, v, rfl, rfl, SqL.of h2, h3, k⟩
  lock := fun σ H p l od v hp ⟨q, xs, n, h1, hn, h2, h3⟩ => ⟨q, xs, n, he.lock _ _ _ _ _ _ hp h1, hn, by rw [upd_ne (fun z => by rw [z, hp] at h2; cases h2)]; exact h2, h3⟩
  rep := fun σ H Z δ d E h => by
    obtain ⟨y, y2, h1, h2, h3⟩ := x2_some h
    obtain ⟨v, hv, r⟩ := he.rep σ H Z δ y E h1
    obtain ⟨u, hu, ru⟩ := E.sh h2
    cases y <;> cases y2 <;> simp only [oIxL] at h3 <;> first | (cases h3; done) | skip
    obtain ⟨jj, h4, h5⟩ := Option.bind_eq_some_iff.mp h3
    obtain ⟨q, vs, rfl, hp, rs⟩ := r
    obtain ⟨v, h6, h7⟩ := rs.get h5
    cases ru
    refine ⟨v, ⟨q, vs, _, hv, hu, (hide_some.mp hp).2, ?_⟩, h7⟩
    unfold atI
    rw [rs.length]
    exact Option.bind_eq_some_iff.mpr ⟨jj, h4, h6⟩
theorem le_lock {Z : Addr → Prop} {H : Hp} {p : Addr} {l : List (Key × V)} {od : Obj} (h : Rd H p (.dK l)) : Le (hide Z H) (hide Z (upd H p (.frz od (.dK l)))) := by
  have ne : ∀ a o, H a = some o → (∀ od l, o ≠ .frz od (.dK l)) → (∀ l, o ≠ .dK l) → a ≠ p := fun a o e h1 h2 z => by
    subst z
    rcases h with h | ⟨o', h⟩
    · rw [h] at e; cases e; exact h2 _ rfl
    · rw [h] at e; cases e; exact h1 _ _ rfl
  refine ⟨fun a u nf r => ?_, fun a xs r => ?_, fun a xs r => ?_, fun a C dx fs r => ?_⟩
  · by_cases ha : a = p
    · subst ha
      have nz : ¬ Z a := by
        rcases r with r | ⟨o, r⟩ <;> exact (hide_some.mp r).1
      have hu : u = .dK l := by
        rcases r with r | ⟨o, r⟩
        · have q := (hide_some.mp r).2
          rcases h with h | ⟨o', h⟩
          · rw [h] at q; cases q; rfl
          · rw [h] at q; cases q; exact nf.elim
        · have q := (hide_some.mp r).2
          rcases h with h | ⟨o', h⟩
          · rw [h] at q; cases q
          · rw [h] at q; cases q; rfl
      subst hu
      exact .inr ⟨od, hide_some.mpr ⟨nz, upd_same⟩⟩
    · rcases r with r | ⟨o, r⟩
      · obtain ⟨n, q⟩ := hide_some.mp r; exact .inl (hide_some.mpr ⟨n, by rw [upd_ne ha]; exact q⟩)
      · obtain ⟨n, q⟩ := hide_some.mp r; exact .inr ⟨o, hide_some.mpr ⟨n, by rw [upd_ne ha]; exact q⟩⟩
  · obtain ⟨n, q⟩ := hide_some.mp r
    exact hide_some.mpr ⟨n, by rw [upd_ne (ne a _ q (fun _ _ => nofun) (fun _ => nofun))]; exact q⟩
  · obtain ⟨n, q⟩ := hide_some.mp r
    exact hide_some.mpr ⟨n, by rw [upd_ne (ne a _ q (fun _ _ => nofun) (fun _ => nofun))]; exact q⟩
  · obtain ⟨n, q⟩ := hide_some.mp r
    exact hide_some.mpr ⟨n, by rw [upd_ne (ne a _ q (fun _ _ => nofun) (fun _ => nofun))]; exact q⟩
theorem le_unlock {Z : Addr → Prop} {H : Hp} {p : Addr} {l : List (Key × V)} {od : Obj} (h : H p = some (.frz od (.dK l))) : Le (hide Z H) (hide Z (upd H p (.dK l))) := by
  have ne : ∀ a o, H a = some o → (∀ od l, o ≠ .frz od (.dK l)) → a ≠ p := fun a o e h1 z => by
    subst z
    rw [h] at e; cases e; exact h1 _ _ rfl
  refine ⟨fun a u nf r => ?_, fun a xs r => ?_, fun a xs r => ?_, fun a C dx fs r => ?_⟩
  · by_cases ha : a = p
    · subst ha
      rcases r with r | ⟨o, r⟩
      · have q := (hide_some.mp r).2
        rw [h] at q; cases q; exact nf.elim
      · obtain ⟨n, q⟩ := hide_some.mp r
        rw [h] at q; cases q
        exact .inl (hide_some.mpr ⟨n, upd_same⟩)
    · rcases r with r | ⟨o, r⟩
      · obtain ⟨n, q⟩ := hide_some.mp r; exact .inl (hide_some.mpr ⟨n, by rw [upd_ne ha]; exact q⟩)
      · obtain ⟨n, q⟩ := hide_some.mp r; exact .inr ⟨o, hide_some.mpr ⟨n, by rw [upd_ne ha]; exact q⟩⟩
  · obtain ⟨n, q⟩ := hide_some.mp r
    exact hide_some.mpr ⟨n, by rw [upd_ne (ne a _ q (fun _ _ => nofun))]; exact q⟩
  · obtain ⟨n, q⟩ := hide_some.mp r
    exact hide_some.mpr ⟨n, by rw [upd_ne (ne a _ q (fun _ _ => nofun))]; exact q⟩
  · obtain ⟨n, q⟩ := hide_some.mp r
    exact hide_some.mpr ⟨n, by rw [upd_ne (ne a _ q (fun _ _ => nofun))]; exact q⟩
theorem EnvR.lock {H : Hp} {Z : Addr → Prop} {σ : L2.St} {δ : En} {p : Addr} {l : List (Key × V)} {od : Obj} {K : PySem.W.Frag} (E : EnvR K κ H Z σ δ) (h : H p = some (.dK l)) (nz : ¬ Z p) : EnvR K κ (upd H p (.frz od (.dK l))) Z σ δ := by
  have le : Le (hide Z H) (hide Z (upd H p (.frz od (.dK l)))) := le_lock (.inl h)
  refine ⟨E.len, fun i sl e => ?_⟩
  have r := E.at_ i sl e
  cases sl with
  | sh d => obtain ⟨v, a, b⟩ := r; exact ⟨v, a, Rep.le le _ _ b⟩
  | ol ds => obtain ⟨a, vs, q, z, b, c⟩ := r; exact ⟨a, vs, q, z, by rw [upd_ne (fun w => by subst w; exact nz z)]; exact b, Reps.le le _ _ c⟩
  | od ds => obtain ⟨a, vs, q, z, b, c⟩ := r; exact ⟨a, vs, q, z, by rw [upd_ne (fun w => by subst w; exact nz z)]; exact b, RepK.le le _ _ c⟩
  | ot ds => obtain ⟨a, vs, q, z, b, c⟩ := r; exact ⟨a, vs, q, z, by rw [upd_ne (fun w => by subst w; exact nz z)]; exact b, RepT.le le _ _ c⟩
  | on ds => obtain ⟨a, vs, q, z, b, c⟩ := r; exact ⟨a, vs, q, z, by rw [upd_ne (fun w => by subst w; exact nz z)]; exact b, RepN.le le _ _ c⟩
  | oo a0 c fs => obtain ⟨a, dx, vs, q, z, b, c⟩ := r; exact ⟨a, dx, vs, q, z, by rw [upd_ne (fun w => by subst w; exact nz z)]; exact b, RepF.le le _ _ c⟩
/-- the reading while the dict that f tells is locked -/
def tPXl (K : PySem.W.Frag) (κ : Kap) (P : L2.St → Hp → V → Prop) (f F : Ex) : TE := fun σ H Q => ∃ (δ : En) (Z : Addr → Prop), ZOk Z H ∧ EnvR K κ H Z σ δ ∧ ∃ kvs p o l, f δ = some (.dct kvs) ∧ P σ H (.ref p) ∧ H p = some (.frz o (.dK l)) ∧ RepK κ (hide Z H) kvs l ∧ ∃ d, F δ = some d ∧ ∀ v H', Ext H H' → Rep κ (hide Z H') d v → Q v H'
theorem pe_or {t t' : TE} (h : PE X e t) (h' : PE X e t') : PE X e (fun σ H Q => t σ H Q ∨ t' σ H Q) := ⟨fun pins s σ H Q I q => q.elim (h.run pins s σ H Q I) (h'.run pins s σ H Q I)⟩
theorem locked_rd {e0 : Expr} {P : L2.St → Hp → V → Prop} {F : Ex} (pk : PEk κ X e0 f P) (hF : ∀ δ d, F δ = some d → ∃ kvs, f δ = some (.dct kvs)) {σ : L2.St} {H : Hp} {Q : VK} (h : tPX X.K κ F σ H Q) : tPXl X.K κ P f F σ H Q ∨ tLockE (tPXl X.K κ P f F) σ H Q := by
  obtain ⟨δ, Z, z, E, d, hd, q⟩ := h
  obtain ⟨kvs, hf⟩ := hF δ d hd
  obtain ⟨v, hv, p, l, rfl, hp, rk⟩ := pk.rep σ H Z δ _ E hf
  rcases hp with hp | ⟨o, hp⟩
  · obtain ⟨nz, hp'⟩ := hide_some.mp hp
    refine .inr ⟨p, .dK l, hp', trivial, fun od => ?_⟩
    have le : Le (hide Z H) (hide Z (upd H p (.frz od (.dK l)))) := le_lock (.inl hp')
    refine ⟨δ, Z, fun a ha => ?_, E.lock hp' nz, kvs, p, od, l, hf, pk.lock _ _ _ _ _ _ hp' hv, upd_same, RepK.le le _ _ rk, d, hd, fun v H' e2 r => ?_⟩
    · obtain ⟨o, e, n⟩ := z a ha
      exact ⟨o, by rw [upd_ne (fun w => by subst w; exact nz ha)]; exact e, n⟩
    · have hl := e2 _ _ upd_same
      refine ⟨hl, q v _ (fun a o e => ?_) (Rep.le (le_unlock hl) _ _ r)⟩
      by_cases ha : a = p
      · subst ha; rw [hp'] at e; cases e; exact upd_same
      · rw [upd_ne ha]; exact e2 a o (by rw [upd_ne ha]; exact e)
  · obtain ⟨nz, hp'⟩ := hide_some.mp hp
    exact .inl ⟨δ, Z, z, E, kvs, p, o, l, hf, hv, hp', rk, d, hd, q⟩
theorem X_locked {e0 : Expr} {P : L2.St → Hp → V → Prop} {F : Ex} (pk : PEk κ X e0 f P) (h : PE X e (tPXl X.K κ P f F)) (hF : ∀ δ d, F δ = some d → ∃ kvs, f δ = some (.dct kvs)) : PX κ X e F := pe_mono (pe_or h (pe_lock h)) fun σ H Q q => locked_rd pk hF q
/-- a walk of a locked dict -/
def tIl (K : PySem.W.Frag) (κ : Kap) (P : L2.St → Hp → V → Prop) (f : Ex) (h : List (D × D) → List D) : TI := fun σ H R => ∃ (δ : En) (Z : Addr → Prop), ZOk Z H ∧ EnvR K κ H Z σ δ ∧ ∃ kvs p o l, f δ = some (.dct kvs) ∧ P σ H (.ref p) ∧ H p = some (.frz o (.dK l)) ∧ RepK κ (hide Z H) kvs l ∧ ∀ J, (h kvs).length ≤ sizeLine → Wk κ Z J H (h kvs) (fun a => a = p ∨ ¬ Z a) → R J H
theorem repK_at {H : Hp} : ∀ {kvs : List (D × D)} {l : List (Key × V)} {i : Nat} {q : D × D}, RepK κ H kvs l → kvs[i]? = some q → ∃ k v, l[i]? = some (k, v) ∧ q.1 = keyD k ∧ Rep κ H q.2 v
  | [], _, _, _, _, e => by simp at e
  | (a, x) :: r, _, 0, _, ⟨k, v, t, e1, e2, h3, h4⟩, e => by subst e1; simp at e; subst e; exact ⟨k, v, rfl, e2, h3⟩
  | (a, x) :: r, _, i + 1, _, ⟨k, v, t, e1, e2, h3, h4⟩, e => by
    subst e1
    obtain ⟨k', v', h5, h6⟩ := repK_at (i := i) h4 (by simpa using e)
    exact ⟨k', v', by simpa using h5, h6⟩
theorem I_keys {tg : Expr} {P : L2.St → Hp → V → Prop} (pk : PEk κ X e f P) : PI X tg e (tIl X.K κ P f (fun kvs => kvs.map (·.1))) := pi_mono (pi_len (pi_keys pk.run)) fun σ H R ⟨δ, Z, z, E, kvs, p, o, l, h1, h2, h3, h4, q⟩ => by
  refine ⟨_, h2, p, o, rfl, .inl ⟨l, h3, fun lo => q _ (by rw [List.length_map, ← repK_len h4]; exact lo.dk p l (.inr ⟨o, h3⟩)) fun Z' i H' hz z' hk => ?_⟩⟩
  have hp := hk p _ (.inl rfl) h3
  refine ⟨fun d hd => ?_, fun hl0 => have hl := Nat.le_of_eq (Eq.symm hl0); ⟨hp, by rw [repK_len h4]; simpa using hl⟩⟩
  rw [List.getElem?_map] at hd
  obtain ⟨r, h5, h6⟩ := Option.map_eq_some_iff.mp hd
  obtain ⟨kk, v, h7, h8, _⟩ := repK_at h4 h5
  refine ⟨⟨hp, (List.getElem?_eq_some_iff.mp h7).1⟩, fun x H2 ⟨e1, k', v', e2, e3⟩ => ?_⟩
  rw [h7] at e2
  cases e2
  subst e1 e3 h6
  rw [h8]
  exact ⟨.refl _, key_rep _⟩
theorem I_vals {tg : Expr} {P : L2.St → Hp → V → Prop} (pk : PEk κ X e f P) (hbase : attributeBase e "values" X.env (eval e X.env) = eval e X.env := by rfl) (hline : (apos.endLine == pos.line) = true := by rfl) : PI X tg (.Call (.Attribute e "values" apos) [] [] pos) (tIl X.K κ P f (fun kvs => kvs.map (·.2))) := pi_mono (pi_len (pi_values pk.run hbase hline)) fun σ H R ⟨δ, Z, z, E, kvs, p, o, l, h1, h2, h3, h4, q⟩ => by
  refine ⟨_, h2, p, o, l, rfl, h3, fun lo => q _ (by rw [List.length_map, ← repK_len h4]; exact lo.dk p l (.inr ⟨o, h3⟩)) fun Z' i H' hz z' hk => ?_⟩
  have hp := hk p _ (.inl rfl) h3
  have le : Le (hide Z H) (hide Z' H') := le_later hz fun a o n e => hk a o (.inr n) e
  refine ⟨fun d hd => ?_, fun hl0 => have hl := Nat.le_of_eq (Eq.symm hl0); ⟨hp, by rw [repK_len h4]; simpa using hl⟩⟩
  rw [List.getElem?_map] at hd
  obtain ⟨r, h5, h6⟩ := Option.map_eq_some_iff.mp hd
  obtain ⟨kk, v, h7, h8, h9⟩ := repK_at h4 h5
  refine ⟨⟨hp, (List.getElem?_eq_some_iff.mp h7).1⟩, fun x H2 ⟨e1, k', e2⟩ => ?_⟩
  rw [h7] at e2
  cases e2
  subst e1 h6
  exact ⟨.refl _, Rep.le le _ _ h9⟩
theorem I_items {t1 t2 : Expr} {j : Nat} {P : L2.St → Hp → V → Prop} (pk : PEk κ X e f P) (hbase : attributeBase e "items" X.env (eval e X.env) = eval e X.env := by rfl) (hline : (apos.endLine == pos.line) = true := by rfl) : PI X (.Tuple [t1, t2] j p2) (.Call (.Attribute e "items" apos) [] [] pos) (tIl X.K κ P f (fun kvs => kvs.map fun q => .tup [q.1, q.2])) := pi_mono (pi_len (pi_items pk.run hbase hline)) fun σ H R ⟨δ, Z, z, E, kvs, p, o, l, h1, h2, h3, h4, q⟩ => by
  refine ⟨_, h2, p, o, l, rfl, h3, fun lo => q _ (by rw [List.length_map, ← repK_len h4]; exact lo.dk p l (.inr ⟨o, h3⟩)) fun Z' i H' hz z' hk => ?_⟩
  have hp := hk p _ (.inl rfl) h3
  have le : Le (hide Z H) (hide Z' H') := le_later hz fun a o n e => hk a o (.inr n) e
  refine ⟨fun d hd => ?_, fun hl0 => have hl := Nat.le_of_eq (Eq.symm hl0); ⟨hp, by rw [repK_len h4]; simpa using hl⟩⟩
  rw [List.getElem?_map] at hd
  obtain ⟨r, h5, h6⟩ := Option.map_eq_some_iff.mp hd
  obtain ⟨kk, v, h7, h8, h9⟩ := repK_at h4 h5
  refine ⟨⟨hp, (List.getElem?_eq_some_iff.mp h7).1⟩, fun x H2 ⟨T, k', v', e2, e3, hT, e1⟩ => ?_⟩
  rw [h7] at e2
  cases e2
  subst e1 e3 h6
  rw [h8]
  exact ⟨.upd hT, T, _, rfl, hide_new z' hT, kV kk, _, rfl, key_rep _, v, [], rfl, Rep.ext (.upd hT) (Rep.le le _ _ h9), rfl⟩
def sDct (f : Ex) (h : List (D × D) → List D) : Sx := fun δ => (f δ).bind fun d => match d with
  | .dct kvs => some (h kvs)
  | _ => none
theorem sDct_some {h : List (D × D) → List D} {δ : En} {ds : List D} (e : sDct f h δ = some ds) : ∃ kvs, f δ = some (.dct kvs) ∧ ds = h kvs := by
  obtain ⟨y, h1, h2⟩ := Option.bind_eq_some_iff.mp e
  cases y <;> dsimp only at h2 <;> first | (cases h2; done) | skip
  cases h2
  exact ⟨_, h1, rfl⟩
theorem lcl_of {K : PySem.W.Frag} {P : L2.St → Hp → V → Prop} {h : List (D × D) → List D} {g : Gx} {ss w : List Nat} {pt : Tx} {f0 : Ex} (hss : ∀ i ∈ ss, i ∈ w) {σ : L2.St} {H : Hp} {Q : VK} (hh : tPXl K κ P f0 (xLc (sDct f0 h) w g pt f) σ H Q) : tLc (tIl K κ P f0 h) (tPG K κ g ss) (tPT K κ pt) (tPX K κ f) w σ H Q := by
  obtain ⟨δ, Z, z, E, kvs, p, o, l, h1, h2, h3, h4, d, hd, q⟩ := hh
  obtain ⟨ds, h5, h6⟩ := Option.bind_eq_some_iff.mp hd
  obtain ⟨ys, h7, h8⟩ := Option.map_eq_some_iff.mp h6
  subst h8
  obtain ⟨kvs', h9, h10⟩ := sDct_some h5
  rw [h1] at h9
  cases h9
  subst h10
  exact ⟨δ, Z, z, E, kvs, p, o, l, h1, h2, h3, h4, fun J hlen wk D hD => lc_rd z E hlen (wk.weak fun _ _ => trivial) h7 hss hD fun H' e2 r => q _ H' e2 r⟩
theorem xLc_dct {h : List (D × D) → List D} {g : Gx} {w : List Nat} {pt : Tx} {f0 : Ex} : ∀ δ d, xLc (sDct f0 h) w g pt f δ = some d → ∃ kvs, f0 δ = some (.dct kvs) := fun δ d hd => by
  obtain ⟨ds, h5, h6⟩ := Option.bind_eq_some_iff.mp hd
  obtain ⟨kvs', h9, h10⟩ := sDct_some h5
  exact ⟨kvs', h9⟩
/-- [elt for tg in a dict, its values, items] -/
theorem X_lcD {elt tg iter e0 : Expr} {ifs : List Expr} {scope : Scope} {own : List (Str × Nat)} {P : L2.St → Hp → V → Prop} {h : List (D × D) → List D} {g : Gx} {ss : List Nat} {pt : Tx} {f0 : Ex} (kn : Kn X k) (pk : PEk κ X e0 f0 P) (hi : PI X tg iter (tIl X.K κ P f0 h)) (ok : BlkOk X.N X.env.scope scope own)
    (hg : ∀ (s : Shared) (H : Hp) (C : Addr) (cl : List (Str × Addr)) (fp : List Addr), PGx κ (X.blk s H scope (compEnvC scope cl C X.env) fp) tg g ss) (ht : ∀ (s : Shared) (H : Hp) (C : Addr) (cl : List (Str × Addr)) (fp : List Addr), PTsx κ (X.blk s H scope (compEnvC scope cl C X.env) fp) ifs pt)
    (he : ∀ (s : Shared) (H : Hp) (C : Addr) (cl : List (Str × Addr)) (fp : List Addr), PX κ (X.blk s H scope (compEnvC scope cl C X.env) fp) elt f) (hss : ∀ i ∈ ss, i ∈ own.map (·.2) := by decide) (hs : ∀ x, foldedSetIterable iter X.env x = pure x := by intro _; rfl) :
    PX κ X (.ListComp elt [⟨tg, iter, ifs, 0⟩] scope pos) (xLc (sDct f0 h) (own.map (·.2)) g pt f) := X_locked pk (pe_mono (pe_lc kn.calm kn.nd hi ok hg ht he hs) fun σ H Q h => lcl_of hss h) xLc_dct
end
end BP
namespace BP
open PySem L2
structure K4 where
  nx : En → Prop
  bk : En → Prop
  ct : En → Prop
  rt : D → Prop
abbrev Tt := K4 → En → Prop
structure StR (K : PySem.W.Frag) (κ : Kap) (H₀ : Hp) (F Z : Addr → Prop) (σ : L2.St) (δ : En) (H : Hp) : Prop where
  z : ZOk Z H
  env : EnvR K κ H Z σ δ
  ext : Ext H₀ H
  fz : ∀ a, F a → Z a
  new : ∀ a, Z a → F a ∨ H₀ a = none
  own : ∀ (i j : Nat) (a : Addr) (si sj : Sl), δ[i]? = some (some si) → δ[j]? = some (some sj) → slOwn si = true → slOwn sj = true → σ[i]? = some (some (.ref a)) → σ[j]? = some (some (.ref a)) → i = j
  nf : ∀ (i : Nat) (a : Addr) (si : Sl), δ[i]? = some (some si) → slOwn si = true → σ[i]? = some (some (.ref a)) → ¬ F a
/-- more is hidden: what did not stand -/
structure Grow (Z : Addr → Prop) (H : Hp) (Z' : Addr → Prop) : Prop where
  sub : ∀ a, Z a → Z' a
  new : ∀ a, Z' a → Z a ∨ H a = none
theorem Grow.refl (Z : Addr → Prop) (H : Hp) : Grow Z H Z := ⟨fun _ h => h, fun _ h => .inl h⟩
theorem Grow.trans {Z Z1 Z2 : Addr → Prop} {H H1 : Hp} (g : Grow Z H Z1) (e : Ext H H1) (g2 : Grow Z1 H1 Z2) : Grow Z H Z2 := ⟨fun a h => g2.sub a (g.sub a h), fun a h => by
  rcases g2.new a h with h | h
  · exact g.new a h
  · right
    cases q : H a with
    | none => rfl
    | some o => rw [e a o q] at h; cases h⟩
theorem Grow.one {Z : Addr → Prop} {H : Hp} {p : Addr} (h : H p = none) : Grow Z H (fun a => Z a ∨ a = p) := ⟨fun a h => .inl h, fun a q => q.imp id fun e => by rw [e]; exact h⟩
theorem hide_grow {Z Z' : Addr → Prop} {H : Hp} (g : Grow Z H Z') : hide Z' H = hide Z H := by
  funext a
  unfold hide
  by_cases h : Z a
  · rw [if_pos h, if_pos (g.sub a h)]
  · rw [if_neg h]
    by_cases h' : Z' a
    · rw [if_pos h']
      exact ((g.new a h').resolve_left h).symm
    · rw [if_neg h']
section
variable {K : PySem.W.Frag} {κ : Kap}
theorem SlR.grow {H : Hp} {Z Z' : Addr → Prop} (g : Grow Z H Z') {o : Option (Option V)} {sl : Sl} (r : SlR K κ H Z o sl) : SlR K κ H Z' o sl := by
  have e := hide_grow g
  cases sl with
  | sh d => obtain ⟨v, a, b⟩ := r; exact ⟨v, a, by rw [e]; exact b⟩
  | ol ds => obtain ⟨a, vs, q, z, b, c⟩ := r; exact ⟨a, vs, q, g.sub _ z, b, by rw [e]; exact c⟩
  | od ds => obtain ⟨a, vs, q, z, b, c⟩ := r; exact ⟨a, vs, q, g.sub _ z, b, by rw [e]; exact c⟩
  | ot ds => obtain ⟨a, vs, q, z, b, c⟩ := r; exact ⟨a, vs, q, g.sub _ z, b, by rw [e]; exact c⟩
  | on ds => obtain ⟨a, vs, q, z, b, c⟩ := r; exact ⟨a, vs, q, g.sub _ z, b, by rw [e]; exact c⟩
  | oo a0 c fs => obtain ⟨a, dx, vs, q, z, b, c⟩ := r; exact ⟨a, dx, vs, q, g.sub _ z, b, by rw [e]; exact c⟩
theorem EnvR.grow {H : Hp} {Z Z' : Addr → Prop} {σ : L2.St} {δ : En} (E : EnvR K κ H Z σ δ) (g : Grow Z H Z') : EnvR K κ H Z' σ δ := ⟨E.len, fun i sl e => (E.at_ i sl e).grow g⟩
/-- an own thing stands, hidden -/
theorem SlR.owned {H : Hp} {Z : Addr → Prop} {o : Option (Option V)} {sl : Sl} (r : SlR K κ H Z o sl) (h : slOwn sl = true) : ∃ a, o = some (some (.ref a)) ∧ Z a ∧ H a ≠ none := by
  cases sl with
  | sh d => cases h
  | ol ds => obtain ⟨a, vs, q, z, b, c⟩ := r; exact ⟨a, q, z, by rw [b]; nofun⟩
  | od ds => obtain ⟨a, vs, q, z, b, c⟩ := r; exact ⟨a, q, z, by rw [b]; nofun⟩
  | ot ds => obtain ⟨a, vs, q, z, b, c⟩ := r; exact ⟨a, q, z, by rw [b]; nofun⟩
  | on ds => obtain ⟨a, vs, q, z, b, c⟩ := r; exact ⟨a, q, z, by rw [b]; nofun⟩
  | oo a0 c fs => obtain ⟨a, dx, vs, q, z, b, c⟩ := r; exact ⟨a, q.1, z, by rw [b]; nofun⟩
variable {H₀ : Hp} {F Z : Addr → Prop} {σ : L2.St} {δ : En} {H : Hp}
theorem StR.ext' {H' : Hp} (S : StR K κ H₀ F Z σ δ H) (e : Ext H H') : StR K κ H₀ F Z σ δ H' := ⟨S.z.ext e, S.env.ext e, S.ext.trans e, S.fz, S.new, S.own, S.nf⟩
theorem StR.grow {H' : Hp} {Z' : Addr → Prop} (S : StR K κ H₀ F Z σ δ H) (e : Ext H H') (g : Grow Z H Z') (z : ZOk Z' H') : StR K κ H₀ F Z' σ δ H' := ⟨z, (S.env.grow g).ext e, S.ext.trans e, fun a h => g.sub a (S.fz a h), fun a h => (g.new a h).elim (S.new a) fun h => .inr (by
    cases q : H₀ a with
    | none => rfl
    | some o => rw [S.ext a o q] at h; cases h), S.own, S.nf⟩
/-- a slot is filled -/
theorem StR.put {i : Nat} {v : V} {sl : Sl} (S : StR K κ H₀ F Z σ δ H) (r : SlR K κ H Z (some (some v)) sl) (n : slOwn sl = true → ∀ a, v = .ref a → ¬ F a ∧ ∀ (j : Nat) (sj : Sl), j ≠ i → δ[j]? = some (some sj) → slOwn sj = true → σ[j]? ≠ some (some (.ref a))) : StR K κ H₀ F Z (σ.set i (some v)) (δ.put i sl) H := by
  refine ⟨S.z, S.env.put r, S.ext, S.fz, S.new, fun i1 j1 a si sj h1 h2 o1 o2 e1 e2 => ?_, fun i1 a si h1 o1 e1 => ?_⟩
  · rcases put_at h1 with ⟨rfl, rfl⟩ | ⟨n1, h3⟩ <;> rcases put_at h2 with ⟨rfl, rfl⟩ | ⟨n2, h4⟩
    · rfl
    · rw [set_at n2] at e2
      exact absurd e2 ((n o1 a (set_me e1).symm).2 _ _ n2 h4 o2)
    · rw [set_at n1] at e1
      exact absurd e1 ((n o2 a (set_me e2).symm).2 _ _ n1 h3 o1)
    · rw [set_at n1] at e1
      rw [set_at n2] at e2
      exact S.own _ _ a _ _ h3 h4 o1 o2 e1 e2
  · rcases put_at h1 with ⟨rfl, rfl⟩ | ⟨n1, h1⟩
    · exact (n o1 a (set_me e1).symm).1
    · rw [set_at n1] at e1
      exact S.nf _ a _ h1 o1 e1
/-- .. by what is new -/
theorem StR.putNew {H₁ : Hp} {i : Nat} {v : V} {sl : Sl} (S : StR K κ H₀ F Z σ δ H) (S₁ : ∃ Z₁, StR K κ H₀ F Z₁ σ δ H₁) (r : SlR K κ H Z (some (some v)) sl) (n : slOwn sl = true → ∀ a, v = .ref a → H₁ a = none) : StR K κ H₀ F Z (σ.set i (some v)) (δ.put i sl) H := S.put r fun o a e => by
  have hn := n o a e
  obtain ⟨Z₁, S₁⟩ := S₁
  refine ⟨fun q => ?_, fun j sj nj hj oj e2 => ?_⟩
  · obtain ⟨_, h, _⟩ := S₁.z a (S₁.fz a q)
    rw [hn] at h; cases h
  · obtain ⟨b, h1, h2, h3⟩ := (S₁.env.at_ j sj hj).owned oj
    rw [e2] at h1
    cases h1
    exact h3 hn
theorem StR.putSh {i : Nat} {v : V} {d : D} (S : StR K κ H₀ F Z σ δ H) (r : Rep κ (hide Z H) d v) : StR K κ H₀ F Z (σ.set i (some v)) (δ.put i (.sh d)) H := S.put ⟨v, rfl, r⟩ fun h => nomatch h
/-- an own thing is changed -/
theorem StR.write {i : Nat} {a : Addr} {s s' : Sl} {o : HO} (S : StR K κ H₀ F Z σ δ H) (hi : δ[i]? = some (some s)) (os : slOwn s = true) (os' : slOwn s' = true) (ha : σ[i]? = some (some (.ref a))) (za : Z a) (nt : ∀ xs, o ≠ .tup xs)
    (r : SlR K κ (upd H a o) Z (some (some (.ref a))) s') : StR K κ H₀ F Z σ (δ.put i s') (upd H a o) := by
  have nFa := S.nf i a s hi os ha
  have h0 : H₀ a = none := (S.new a za).resolve_left nFa
  have le : Le (hide Z H) (hide Z (upd H a o)) := (show ExtZ _ _ _ from fun b q n h => by rw [upd_ne (fun e => n (by rw [e]; exact za))]; exact h).le
  refine ⟨fun b hb => ?_, ⟨by unfold En.put; rw [List.length_set, S.env.len], fun j sj e => ?_⟩, fun b q h => by rw [upd_ne (fun e => by rw [e, h0] at h; cases h)]; exact S.ext b q h, S.fz, S.new, fun i1 j1 b si sj h1 h2 o1 o2 e1 e2 => ?_, fun i1 b si h1 o1 e1 => ?_⟩
  · by_cases e : b = a
    · subst e; exact ⟨o, upd_same, nt⟩
    · obtain ⟨q, h1, h2⟩ := S.z b hb
      exact ⟨q, by rw [upd_ne e]; exact h1, h2⟩
  · rcases put_at e with ⟨rfl, rfl⟩ | ⟨nj, e⟩
    · rw [ha]; exact r
    · have rj := S.env.at_ j sj e
      have na : slOwn sj = true → σ[j]? ≠ some (some (.ref a)) := fun oj e2 => nj (S.own j i a sj s e hi oj os e2 ha)
      cases sj with
      | sh d => obtain ⟨v, a, b⟩ := rj; exact ⟨v, a, Rep.le le _ _ b⟩
      | ol ds => obtain ⟨b, vs, q, z, h, c⟩ := rj; exact ⟨b, vs, q, z, by rw [upd_ne (fun w => na rfl (by rw [q, w]))]; exact h, Reps.le le _ _ c⟩
      | od ds => obtain ⟨b, vs, q, z, h, c⟩ := rj; exact ⟨b, vs, q, z, by rw [upd_ne (fun w => na rfl (by rw [q, w]))]; exact h, RepK.le le _ _ c⟩
      | ot ds => obtain ⟨b, vs, q, z, h, c⟩ := rj; exact ⟨b, vs, q, z, by rw [upd_ne (fun w => na rfl (by rw [q, w]))]; exact h, RepT.le le _ _ c⟩
      | on ds => obtain ⟨b, vs, q, z, h, c⟩ := rj; exact ⟨b, vs, q, z, by rw [upd_ne (fun w => na rfl (by rw [q, w]))]; exact h, RepN.le le _ _ c⟩
      | oo a0 c fs => obtain ⟨b, dx, vs, q, z, h, c⟩ := rj; exact ⟨b, dx, vs, q, z, by rw [upd_ne (fun w => na rfl (by rw [q.1, w]))]; exact h, RepF.le le _ _ c⟩
  · have o1' := o1
    have k1 : ∃ s1, δ[i1]? = some (some s1) ∧ slOwn s1 = true := by
      rcases put_at h1 with ⟨rfl, rfl⟩ | ⟨n1, h1⟩
      · exact ⟨s, hi, os⟩
      · exact ⟨si, h1, o1⟩
    have k2 : ∃ s1, δ[j1]? = some (some s1) ∧ slOwn s1 = true := by
      rcases put_at h2 with ⟨rfl, rfl⟩ | ⟨n1, h2⟩
      · exact ⟨s, hi, os⟩
      · exact ⟨sj, h2, o2⟩
    obtain ⟨s1, q1, p1⟩ := k1
    obtain ⟨s2, q2, p2⟩ := k2
    exact S.own _ _ b _ _ q1 q2 p1 p2 e1 e2
  · rcases put_at h1 with ⟨rfl, rfl⟩ | ⟨n1, h1⟩
    · exact S.nf _ b _ hi os e1
    · exact S.nf _ b _ h1 o1 e1
end
end BP
namespace BP
open PySem L2
section
variable {K : PySem.W.Frag} {κ : Kap}
structure EndsOk (K : PySem.W.Frag) (κ : Kap) (H₀ : Hp) (F : Addr → Prop) (C : K4) (D : Ends) : Prop where
  nx : ∀ Z σ δ H, StR K κ H₀ F Z σ δ H → C.nx δ → D.nx σ H
  bk : ∀ Z σ δ H, StR K κ H₀ F Z σ δ H → C.bk δ → D.bk σ H
  ct : ∀ Z σ δ H, StR K κ H₀ F Z σ δ H → C.ct δ → D.ct σ H
  rt : ∀ (Z : Addr → Prop) d v H, ZOk Z H → Ext H₀ H → (∀ a, F a → Z a) → (∀ a, Z a → F a ∨ H₀ a = none) → Rep κ (hide Z H) d v → C.rt d → D.rt v H
def tPS (K : PySem.W.Frag) (κ : Kap) (T : Tt) : TS := fun D σ H => ∃ (H₀ : Hp) (F Z : Addr → Prop) (C : K4) (δ : En), StR K κ H₀ F Z σ δ H ∧ T C δ ∧ EndsOk K κ H₀ F C D
/-- a base that grew -/
theorem StR.base {H₀ H₁ : Hp} {F Z : Addr → Prop} {σ : L2.St} {δ : En} {H : Hp} (e : Ext H₀ H₁) (S : StR K κ H₁ F Z σ δ H) : StR K κ H₀ F Z σ δ H := ⟨S.z, S.env, e.trans S.ext, S.fz, fun a h => (S.new a h).imp id fun h => (by
  cases q : H₀ a with
  | none => rfl
  | some o => rw [e a o q] at h; cases h), S.own, S.nf⟩
theorem EndsOk.base {H₀ H₁ : Hp} {F : Addr → Prop} {C : K4} {D : Ends} (e : Ext H₀ H₁) (E : EndsOk K κ H₀ F C D) : EndsOk K κ H₁ F C D := ⟨fun Z σ δ H S => E.nx Z σ δ H (S.base e), fun Z σ δ H S => E.bk Z σ δ H (S.base e), fun Z σ δ H S => E.ct Z σ δ H (S.base e), fun Z d v H z x f n => E.rt Z d v H z (e.trans x) f fun a h => (n a h).imp id fun h => by
  cases q : H₀ a with
  | none => rfl
  | some o => rw [e a o q] at h; cases h⟩
/-- what stands now, but the own things, as the base -/
theorem StR.rebase {H₀ : Hp} {F Z : Addr → Prop} {σ : L2.St} {δ : En} {H : Hp} (S : StR K κ H₀ F Z σ δ H) : Ext H₀ (hide (fun a => Z a ∧ ¬ F a) H) ∧ StR K κ (hide (fun a => Z a ∧ ¬ F a) H) F Z σ δ H := by
  refine ⟨fun a o h => hide_some.mpr ⟨fun q => ?_, S.ext a o h⟩, S.z, S.env, fun a o h => (hide_some.mp h).2, S.fz, fun a h => ?_, S.own, S.nf⟩
  · have := (S.new a q.1).resolve_left q.2
    rw [h] at this; cases this
  · by_cases f : F a
    · exact .inl f
    · right; unfold hide; rw [if_pos ⟨h, f⟩]
theorem ps_px {H₀ : Hp} {F Z : Addr → Prop} {σ : L2.St} {δ : En} {H : Hp} {f : Ex} {d : D} {Q : VK} (S : StR K κ H₀ F Z σ δ H) (h : f δ = some d) (q : ∀ v H', Ext H H' → StR K κ H₀ F Z σ δ H' → Rep κ (hide Z H') d v → Q v H') : tPX K κ f σ H Q := ⟨δ, Z, S.z, S.env, d, h, fun v H' e r => q v H' e (S.ext' e) r⟩
end
section
variable {κ : Kap} {X : Cx} {a b c e : Expr} {es : List Expr} {f fa fb fc : Ex} {pos p p2 p3 apos : Pos} {k : Nat} {st : Stmt} {sts : List Stmt} {T U : Tt}
abbrev PSx (κ : Kap) (X : Cx) (st : Stmt) (T : Tt) : Prop := PS X st (tPS X.K κ T)
abbrev PSsx (κ : Kap) (X : Cx) (sts : List Stmt) (T : Tt) : Prop := PSs X sts (tPS X.K κ T)
theorem ps_mono {t t' : TS} (h : PS X st t) (w : ∀ D σ H, t' D σ H → t D σ H) : PS X st t' := ⟨fun pins s σ H D I q => h.run pins s σ H D I (w _ _ _ q)⟩
theorem pss_mono {t t' : TS} (h : PSs X sts t) (w : ∀ D σ H, t' D σ H → t D σ H) : PSs X sts t' := ⟨fun pins s σ H D I q => h.run pins s σ H D I (w _ _ _ q)⟩
def sNext : Tt := fun C δ => C.nx δ
def sThen (T U : Tt) : Tt := fun C δ => T { C with nx := U C } δ
def sNever : Tt := fun _ _ => False
def sIf (t : Tx) (T U : Tt) : Tt := fun C δ => ∃ b, t δ = some b ∧ if b = true then T C δ else U C δ
def sRet (f : Ex) : Tt := fun C δ => ∃ d, f δ = some d ∧ C.rt d
def sRetN : Tt := fun C _ => C.rt .non
def sExpr (f : Ex) : Tt := fun C δ => ∃ d, f δ = some d ∧ C.nx δ
def sDis (i : Nat) : Tt := fun C δ => ∃ d, δ.any i = some d ∧ C.nx (δ.put i (.sh d))
def sWhile (t : Tx) (T : Tt) : Tt := fun C δ => ∃ W : Nat → En → Prop, (∃ m, W m δ) ∧ ∀ m δ, W m δ → ∃ b, t δ = some b ∧ if b = true then T { C with nx := fun δ' => ∃ m', m' < m ∧ W m' δ', ct := fun δ' => ∃ m', m' < m ∧ W m' δ', bk := C.nx } δ else C.nx δ
def sForL (g : Gx) (T : Tt) (C : K4) : List D → En → Prop
  | [] => C.nx
  | d :: r => fun δ => ∃ δ', g d δ = some δ' ∧ T { C with nx := sForL g T C r, ct := sForL g T C r, bk := C.nx } δ'
def sFor (src : Sx) (g : Gx) (T : Tt) : Tt := fun C δ => ∃ ds, src δ = some ds ∧ sForL g T C ds δ
theorem SS_nil : PSsx κ X [] sNext := pss_mono pss_nil fun D σ H ⟨H₀, F, Z, C, δ, S, t, E⟩ => E.nx _ _ _ _ S t
theorem SS_cons (h1 : PSx κ X st T) (h2 : PSsx κ X sts U) : PSsx κ X (st :: sts) (sThen T U) := pss_mono (pss_cons h1 h2) fun D σ H ⟨H₀, F, Z, C, δ, S, t, E⟩ =>
  ⟨H₀, F, Z, _, δ, S, t, ⟨fun Z σ δ H S u => ⟨H₀, F, Z, C, δ, S, u, E⟩, E.bk, E.ct, E.rt⟩⟩
theorem SS_one (h1 : PSx κ X st T) : PSsx κ X [st] T := pss_one h1
theorem SS_never : PSsx κ X sts sNever := pss_mono pss_never fun D σ H ⟨H₀, F, Z, C, δ, S, t, E⟩ => t
theorem S_never : PSx κ X st sNever := ps_mono ps_never fun D σ H ⟨H₀, F, Z, C, δ, S, t, E⟩ => t
/-- an own thing is own no more -/
theorem StR.dis {K : PySem.W.Frag} {H₀ : Hp} {F Z : Addr → Prop} {σ : L2.St} {δ : En} {H : Hp} {i : Nat} {d : D} (S : StR K κ H₀ F Z σ δ H) (h : δ.any i = some d) : ∃ Z', StR K κ H₀ F Z' σ (δ.put i (.sh d)) H := by
  -- the slot
  have key : ∀ (sl : Sl) (a : Addr), δ[i]? = some (some sl) → slOwn sl = true → σ[i]? = some (some (.ref a)) → Z a → (∀ Z' : Addr → Prop, Le (hide Z H) (hide Z' H) → ¬ Z' a → SlR K κ H Z' (some (some (.ref a))) (.sh d)) → ∃ Z', StR K κ H₀ F Z' σ (δ.put i (.sh d)) H := fun sl a hs os ha za hr => by
    have nf := S.nf i a sl hs os ha
    have le : Le (hide Z H) (hide (fun b => Z b ∧ b ≠ a) H) := le_sub fun b h => h.1
    refine ⟨fun b => Z b ∧ b ≠ a, fun b hb => S.z b hb.1, ⟨by unfold En.put; rw [List.length_set, S.env.len], fun j sj e => ?_⟩, S.ext, fun b hb => ⟨S.fz b hb, fun e => nf (by rw [← e]; exact hb)⟩, fun b hb => S.new b hb.1, fun i1 j1 b si sj h1 h2 o1 o2 e1 e2 => ?_, fun i1 b si h1 o1 e1 => ?_⟩
    · rcases put_at e with ⟨rfl, rfl⟩ | ⟨nj, e⟩
      · rw [ha]; exact hr _ le fun h => h.2 rfl
      · have rj := S.env.at_ j sj e
        have na : slOwn sj = true → σ[j]? ≠ some (some (.ref a)) := fun oj e2 => nj (S.own j i a sj sl e hs oj os e2 ha)
        cases sj with
        | sh d => obtain ⟨v, a, b⟩ := rj; exact ⟨v, a, Rep.le le _ _ b⟩
        | ol ds => obtain ⟨b, vs, q, z, h, c⟩ := rj; exact ⟨b, vs, q, ⟨z, fun w => na rfl (by rw [q, w])⟩, h, Reps.le le _ _ c⟩
        | od ds => obtain ⟨b, vs, q, z, h, c⟩ := rj; exact ⟨b, vs, q, ⟨z, fun w => na rfl (by rw [q, w])⟩, h, RepK.le le _ _ c⟩
        | ot ds => obtain ⟨b, vs, q, z, h, c⟩ := rj; exact ⟨b, vs, q, ⟨z, fun w => na rfl (by rw [q, w])⟩, h, RepT.le le _ _ c⟩
        | on ds => obtain ⟨b, vs, q, z, h, c⟩ := rj; exact ⟨b, vs, q, ⟨z, fun w => na rfl (by rw [q, w])⟩, h, RepN.le le _ _ c⟩
        | oo a0 c fs => obtain ⟨b, dx, vs, q, z, h, c⟩ := rj; exact ⟨b, dx, vs, q, ⟨z, fun w => na rfl (by rw [q.1, w])⟩, h, RepF.le le _ _ c⟩
    · rcases put_at h1 with ⟨rfl, rfl⟩ | ⟨n1, h3⟩
      · cases o1
      · rcases put_at h2 with ⟨rfl, rfl⟩ | ⟨n2, h4⟩
        · cases o2
        · exact S.own _ _ b _ _ h3 h4 o1 o2 e1 e2
    · rcases put_at h1 with ⟨rfl, rfl⟩ | ⟨n1, h3⟩
      · cases o1
      · exact S.nf _ b _ h3 o1 e1
  unfold En.any at h
  split at h
  · next d' e =>
    cases h
    refine ⟨Z, ?_⟩
    have : δ.put i (.sh d) = δ := by
      unfold En.put
      apply List.ext_getElem?
      intro j
      by_cases hj : i = j
      · subst hj
        have hl : i < δ.length := (List.getElem?_eq_some_iff.mp e).1
        rw [List.getElem?_set_self hl, e]
      · rw [List.getElem?_set_ne hj]
    rw [this]; exact S
  · next ds e => cases h; obtain ⟨a, vs, q, z, b, c⟩ := S.env.at_ i _ e; exact key _ a e rfl q z fun Z' le n => ⟨_, rfl, a, vs, rfl, hide_some.mpr ⟨n, b⟩, Reps.le le _ _ c⟩
  · next ds e => cases h; obtain ⟨a, vs, q, z, b, c⟩ := S.env.at_ i _ e; exact key _ a e rfl q z fun Z' le n => ⟨_, rfl, a, vs, rfl, .inl (hide_some.mpr ⟨n, b⟩), RepK.le le _ _ c⟩
  · next ds e => cases h; obtain ⟨a, vs, q, z, b, c⟩ := S.env.at_ i _ e; exact key _ a e rfl q z fun Z' le n => ⟨_, rfl, a, vs, rfl, .inl (hide_some.mpr ⟨n, b⟩), RepT.le le _ _ c⟩
  · next c fs e => cases h; obtain ⟨a, dx, vs, q, z, b, c⟩ := S.env.at_ i _ e; exact key _ a e rfl q.1 z fun Z' le n => ⟨_, rfl, a, dx, vs, rfl, hide_some.mpr ⟨n, b⟩, RepF.le le _ _ c⟩
  · cases h
theorem SS_dis (i : Nat) (h : PSsx κ X sts U) : PSsx κ X sts (sThen (sDis i) U) := pss_mono h fun D σ H ⟨H₀, F, Z, C, δ, S, ⟨d, h1, h2⟩, E⟩ => by
  obtain ⟨Z', S'⟩ := S.dis h1
  exact ⟨H₀, F, Z', C, _, S', h2, E⟩
theorem S_if {t : Tx} {A B : List Stmt} (hc : PTx κ X c t) (ha : PSsx κ X A T) (hb : PSsx κ X B U) : PSx κ X (.If c A B pos) (sIf t T U) := ps_mono (ps_if hc ha hb) fun D σ H ⟨H₀, F, Z, C, δ, S, ⟨d, h1, h2⟩, E⟩ => ⟨δ, Z, S.z, S.env, d, h1, fun H' e => by
  cases d with
  | true => rw [if_pos rfl]; rw [if_pos rfl] at h2; exact ⟨H₀, F, Z, C, δ, S.ext' e, h2, E⟩
  | false => rw [if_neg Bool.false_ne_true]; rw [if_neg Bool.false_ne_true] at h2; exact ⟨H₀, F, Z, C, δ, S.ext' e, h2, E⟩⟩
theorem S_ret (he : PX κ X e f) : PSx κ X (.Return (some e) pos) (sRet f) := ps_mono (ps_ret he) fun D σ H ⟨H₀, F, Z, C, δ, S, ⟨d, h1, h2⟩, E⟩ => ps_px S h1 fun v H' e S' r => E.rt Z d v H' S'.z S'.ext S'.fz S'.new r h2
theorem S_retN : PSx κ X (.Return none pos) sRetN := ps_mono ps_retN fun D σ H ⟨H₀, F, Z, C, δ, S, h1, E⟩ => E.rt Z .non .non H S.z S.ext S.fz S.new rfl h1
theorem S_expr (he : PX κ X e f) (hs : swapsWith e none pos.line X.env = pure false := by rfl) : PSx κ X (.Expr e pos) (sExpr f) := ps_mono (ps_expr he hs) fun D σ H ⟨H₀, F, Z, C, δ, S, ⟨d, h1, h2⟩, E⟩ => ps_px S h1 fun v H' e S' r => E.nx Z σ δ H' S' h2
theorem S_while {t : Tx} {body : List Stmt} (hp : PassesOwn (model X.prog X.w) X.A X.env X.xe) (hc : PTx κ X c t) (hb : PSsx κ X body T) : PSx κ X (.While c body [] pos) (sWhile t T) := ps_mono (ps_while hp hc hb) fun D σ H ⟨H₀, F, Z, C, δ, S, ⟨W, ⟨m, h1⟩, h2⟩, E⟩ => by
  refine ⟨fun m σ H => ∃ Z δ, StR X.K κ H₀ F Z σ δ H ∧ W m δ, ⟨m, Z, δ, S, h1⟩, fun m σ H ⟨Z, δ, S, hw⟩ => ?_⟩
  obtain ⟨b, h3, h4⟩ := h2 m δ hw
  refine ⟨δ, Z, S.z, S.env, b, h3, fun H' e => ?_⟩
  cases b with
  | true =>
    rw [if_pos rfl] at h4 ⊢
    exact ⟨fun σ' H' => ∃ Z δ, StR X.K κ H₀ F Z σ' δ H' ∧ ∃ m', m' < m ∧ W m' δ, fun σ' H' ⟨Z, δ, S, m', hm, hw⟩ => ⟨m', hm, Z, δ, S, hw⟩, H₀, F, Z, _, δ, S.ext' e, h4, ⟨fun Z σ δ H S u => ⟨Z, δ, S, u⟩, E.nx, fun Z σ δ H S u => ⟨Z, δ, S, u⟩, E.rt⟩⟩
  | false =>
    rw [if_neg Bool.false_ne_true] at h4 ⊢
    exact E.nx Z σ δ H' (S.ext' e) h4
def tGS (K : PySem.W.Frag) (κ : Kap) (g : Gx) : TG := fun v σ H Q => ∃ (H₀ : Hp) (F Z : Addr → Prop) (δ : En) (d : D), StR K κ H₀ F Z σ δ H ∧ Rep κ (hide Z H) d v ∧ ∃ δ', g d δ = some δ' ∧ ∀ σ' H', Ext H H' → StR K κ H₀ F Z σ' δ' H' → Q σ' H'
def tGSs (K : PySem.W.Frag) (κ : Kap) (g : GLx) : TGs := fun vs σ H Q => ∃ (H₀ : Hp) (F Z : Addr → Prop) (δ : En) (ds : List D), StR K κ H₀ F Z σ δ H ∧ Reps κ (hide Z H) ds vs ∧ ∃ δ', g ds δ = some δ' ∧ ∀ σ' H', Ext H H' → StR K κ H₀ F Z σ' δ' H' → Q σ' H'
abbrev GSx (κ : Kap) (X : Cx) (tg : Expr) (g : Gx) : Prop := PG X tg (tGS X.K κ g)
abbrev GSsx (κ : Kap) (X : Cx) (tg : List Expr) (g : GLx) : Prop := PGs X tg (tGSs X.K κ g)
theorem GS_name (i : Nat) {x : Str} (hN : X.N.Nodup) (hi : X.N[i]? = some x := by rfl) (hx : Loc X.env.scope x := by first | exact Or.inl rfl | exact Or.inr rfl) (hf : X.fn x = true ∨ X.env.scope.names.lookup x = some .local := by first | exact .inl rfl | exact .inr rfl | assumption) : GSx κ X (.Name x pos) (gN i) :=
  pg_mono (pg_name hN hi hx hf) fun v σ H Q ⟨H₀, F, Z, δ, d, S, r, δ', hd, q⟩ => by
    cases hd
    exact q _ H (.refl H) (S.putSh r)
theorem GSs_nil : GSsx κ X [] gs0 := pgs_mono pgs_nil fun vs σ H Q ⟨H₀, F, Z, δ, ds, S, r, δ', hd, q⟩ => by
  cases ds with
  | nil => cases hd; exact ⟨r, q σ H (.refl H) S⟩
  | cons _ _ => cases hd
theorem GSs_cons {g : Gx} {gs : GLx} (h1 : GSx κ X e g) (h2 : GSsx κ X es gs) (hs : (assignEach (e :: es) X.env).map (·.2) = assign e X.env :: (assignEach es X.env).map (·.2) := by rfl) : GSsx κ X (e :: es) (gsC g gs) :=
  pgs_mono (pgs_cons h1 h2 hs) fun vs σ H Q ⟨H₀, F, Z, δ, ds, S, r, δ', hd, q⟩ => by
    cases ds with
    | nil => cases hd
    | cons d t =>
      obtain ⟨v, rr, rfl, r1, r2⟩ := r
      obtain ⟨δ1, h3, h4⟩ := Option.bind_eq_some_iff.mp hd
      exact ⟨v, rr, rfl, H₀, F, Z, δ, d, S, r1, δ1, h3, fun σ1 H1 e1 S1 => ⟨H₀, F, Z, δ1, t, S1, Reps.ext e1 r2, δ', h4, fun σ2 H2 e2 S2 => q σ2 H2 (e1.trans e2) S2⟩⟩
theorem GS_tup {gs : GLx} {n j : Nat} (hc : X.calm = true) (h : GSsx κ X es gs) (hl : ∀ ds δ δ', gs ds δ = some δ' → ds.length = n) (hn : (assignEach es X.env).length = n := by rfl) (hst : (assignEach es X.env).findIdx? (·.1) = none := by rfl) : GSx κ X (.Tuple es j pos) (gT gs) :=
  pg_mono (pg_tup hc h hn hst) fun v σ H Q ⟨H₀, F, Z, δ, d, S, r, δ', hd, q⟩ => by
    cases d <;> simp only [gT] at hd <;> first | (cases hd; done) | skip
    obtain ⟨p, vs, rfl, hp, rs⟩ := r
    exact ⟨p, vs, rfl, SqT.of (hide_some.mp hp).2, by rw [rs.length]; exact hl _ _ _ hd, H₀, F, Z, δ, _, S, rs, δ', hd, q⟩
/-- for over a walk of a clean thing -/
theorem S_for {tg iter : Expr} {body : List Stmt} {src : Sx} {g : Gx} (kn : Kn X k) (hp : PassesOwn (model X.prog X.w) X.A X.env X.xe) (hi : PIx κ X tg iter true src) (hg : GSx κ X tg g) (hb : PSsx κ X body T) (hs : ∀ x, foldedSetIterable iter X.env x = pure x := by intro _; rfl) : PSx κ X (.For tg iter body [] pos) (sFor src g T) :=
  ps_mono (ps_for hp kn.calm hi hg hb hs) fun D σ H ⟨H₀, F, Z, C, δ, S, ⟨ds, h1, h2⟩, E⟩ => by
    refine ⟨δ, Z, S.z, S.env, ds, h1, fun J H1 e1 hlen wk => ?_⟩
    obtain ⟨eb, Sb⟩ := (S.ext' e1).rebase
    generalize hHb : hide (fun a => Z a ∧ ¬ F a) H1 = Hb at eb Sb
    have Eb := E.base eb
    refine ⟨fun i m σ H => m = ds.length - i ∧ i ≤ ds.length ∧ ∃ Z' δ, StR X.K κ Hb F Z' σ δ H ∧ sForL g T C (ds.drop i) δ, ⟨ds.length, by simp, Nat.zero_le _, Z, δ, Sb, h2⟩, ?_⟩
    rintro i m σ H ⟨rfl, hi, Z', δ, S, hw⟩
    have old : ∀ a, H1 a ≠ none → Z' a → Z a := fun a n z => by
      rcases S.new a z with h | h
      · exact Sb.fz a h
      · by_cases q : Z a
        · exact q
        · refine absurd ?_ n
          rw [← hHb] at h
          unfold hide at h
          rw [if_neg (fun w => q w.1)] at h
          exact h
    have kept : ∀ a o, (true = true → ¬ Z a) → H1 a = some o → H a = some o := fun a o n h => S.ext a o (by rw [← hHb]; exact hide_some.mpr ⟨fun w => n rfl w.1, h⟩)
    obtain ⟨go, stop⟩ := wk Z' i H old S.z kept
    by_cases hlt : i < ds.length
    · have hg : ds[i]? = some ds[i] := by simp [hlt]
      obtain ⟨hgo, hyld⟩ := go _ hg
      rw [List.drop_eq_getElem_cons hlt] at hw
      obtain ⟨δ', h3, h4⟩ := hw
      refine .inr ⟨hgo, fun σ' H' => i + 1 ≤ ds.length ∧ ∃ Z' δ, StR X.K κ Hb F Z' σ' δ H' ∧ sForL g T C (ds.drop (i + 1)) δ, fun σ' H' n => ⟨ds.length - (i + 1), by omega, rfl, n⟩, fun x H' y => ?_⟩
      obtain ⟨e2, rx⟩ := hyld x H' y
      exact ⟨Hb, F, Z', δ, ds[i], S.ext' e2, rx, δ', h3, fun σ2 H2 e3 S2 => ⟨Hb, F, Z', _, δ', S2, h4, ⟨fun Z σ δ H S u => ⟨hlt, Z, δ, S, u⟩, Eb.nx, fun Z σ δ H S u => ⟨hlt, Z, δ, S, u⟩, Eb.rt⟩⟩⟩
    · have hl : i = ds.length := by omega
      subst hl
      rw [List.drop_length] at hw
      exact .inl ⟨stop rfl, Eb.nx _ _ _ _ S hw⟩
end
end BP
namespace BP
open PySem L2
def tPN (K : PySem.W.Frag) (κ : Kap) (f : En → Option Sl) : TE := fun σ H Q => ∃ (δ : En) (Z : Addr → Prop), ZOk Z H ∧ EnvR K κ H Z σ δ ∧ ∃ sl, f δ = some sl ∧ ∀ v H' Z', Ext H H' → Grow Z H Z' → ZOk Z' H' → SlR K κ H' Z' (some (some v)) sl → (slOwn sl = true → ∀ a, v = .ref a → H a = none) → Q v H'
/-- several: the own ones differ -/
def NewS (K : PySem.W.Frag) (κ : Kap) (H H' : Hp) (Z' : Addr → Prop) : List Sl → List V → Prop
  | [], vs => vs = []
  | sl :: r, vs => ∃ v t, vs = v :: t ∧ SlR K κ H' Z' (some (some v)) sl ∧ (slOwn sl = true → ∀ a, v = .ref a → H a = none ∧ ∀ (k : Nat) (s' : Sl), r[k]? = some s' → slOwn s' = true → t[k]? ≠ some (.ref a)) ∧ NewS K κ H H' Z' r t
def tPAN (K : PySem.W.Frag) (κ : Kap) (f : En → Option (List Sl)) : TA := fun σ H Q => ∃ (δ : En) (Z : Addr → Prop), ZOk Z H ∧ EnvR K κ H Z σ δ ∧ ∃ sls, f δ = some sls ∧ ∀ vs H' Z', Ext H H' → Grow Z H Z' → ZOk Z' H' → NewS K κ H H' Z' sls vs → Q vs H'
abbrev PNx (κ : Kap) (X : Cx) (e : Expr) (f : En → Option Sl) : Prop := PE X e (tPN X.K κ f)
abbrev PANx (κ : Kap) (X : Cx) (es : List Expr) (f : En → Option (List Sl)) : Prop := PA X es (tPAN X.K κ f)
def nSh (f : Ex) : En → Option Sl := fun δ => (f δ).map .sh
def nL0 : En → Option Sl := fun _ => some (.ol [])
def nD0 : En → Option Sl := fun _ => some (.od [])
def nT0 : En → Option Sl := fun _ => some (.ot [])
def ns0 : En → Option (List Sl) := fun _ => some []
def nsC (a : En → Option Sl) (r : En → Option (List Sl)) : En → Option (List Sl) := fun δ => (a δ).bind fun x => (r δ).bind fun y => some (x :: y)
section
variable {K : PySem.W.Frag} {κ : Kap}
theorem NewS.mono {H0 H H' : Hp} {Z' : Addr → Prop} (e : ∀ a, H a = none → H0 a = none) : ∀ {sls : List Sl} {vs : List V}, NewS K κ H H' Z' sls vs → NewS K κ H0 H' Z' sls vs
  | [], _, h => h
  | sl :: r, _, ⟨v, t, h1, h2, h3, h4⟩ => ⟨v, t, h1, h2, fun o a q => ⟨e a (h3 o a q).1, (h3 o a q).2⟩, h4.mono e⟩
theorem NewS.fresh {H H' : Hp} {Z' : Addr → Prop} : ∀ {sls : List Sl} {vs : List V}, NewS K κ H H' Z' sls vs → ∀ (k : Nat) (s : Sl) (a : Addr), sls[k]? = some s → slOwn s = true → vs[k]? = some (.ref a) → H a = none
  | [], _, h, k, s, a, e, _, _ => by simp at e
  | sl :: r, _, ⟨v, t, h1, h2, h3, h4⟩, 0, s, a, e, o, q => by
    subst h1
    simp at e q
    subst e q
    exact (h3 o a rfl).1
  | sl :: r, _, ⟨v, t, h1, h2, h3, h4⟩, k + 1, s, a, e, o, q => by
    subst h1
    exact h4.fresh k s a (by simpa using e) o (by simpa using q)
end
theorem ext_none {H H' : Hp} (e : Ext H H') {a : Addr} (h : H' a = none) : H a = none := by
  cases q : H a with
  | none => rfl
  | some o => rw [e a o q] at h; cases h
theorem zok_one {Z : Addr → Prop} {H : Hp} {p : Addr} {o : HO} (z : ZOk Z H) (h : H p = none) (n : ∀ xs, o ≠ .tup xs) : ZOk (fun a => Z a ∨ a = p) (upd H p o) := fun a q => by
  by_cases e : a = p
  · subst e; exact ⟨o, upd_same, n⟩
  · obtain ⟨u, h1, h2⟩ := z a (q.resolve_right e)
    exact ⟨u, by rw [upd_ne e]; exact h1, h2⟩
section
variable {κ : Kap} {X : Cx} {a b c e : Expr} {es : List Expr} {f fa fb fc : Ex} {pos p p2 p3 apos : Pos} {k : Nat} {st : Stmt} {sts : List Stmt} {T U : Tt} {n n1 n2 n3 : En → Option Sl} {ns : En → Option (List Sl)}
theorem N_sh (h : PX κ X e f) : PNx κ X e (nSh f) := pe_mono h fun σ H Q ⟨δ, Z, z, E, sl, hd, q⟩ => by
  obtain ⟨d, h1, h2⟩ := Option.map_eq_some_iff.mp hd
  subst h2
  exact ⟨δ, Z, z, E, d, h1, fun v H' e r => q v H' Z e (.refl Z H) (z.ext e) ⟨v, rfl, r⟩ fun o => nomatch o⟩
theorem N_lst0 : PNx κ X (.List [] pos) nL0 := pe_mono (pe_lst pa_nil) fun σ H Q ⟨δ, Z, z, E, sl, hd, q⟩ => by
  cases hd
  exact ⟨Nat.zero_le _, fun p hp => q (.ref p) _ (fun a => Z a ∨ a = p) (.upd hp) (.one hp) (zok_one z hp fun _ => nofun) ⟨p, [], rfl, .inr rfl, upd_same, rfl⟩ fun _ a e => by cases e; exact hp⟩
theorem N_dct0 : PNx κ X (.Dict [] [] pos) nD0 := pe_mono pe_dnewK fun σ H Q ⟨δ, Z, z, E, sl, hd, q⟩ => by
  cases hd
  exact fun p hp => q (.ref p) _ (fun a => Z a ∨ a = p) (.upd hp) (.one hp) (zok_one z hp fun _ => nofun) ⟨p, [], rfl, .inr rfl, upd_same, rfl⟩ fun _ a e => by cases e; exact hp
theorem N_dtt0 : PNx κ X (.Dict [] [] pos) nT0 := pe_mono pe_dnewT fun σ H Q ⟨δ, Z, z, E, sl, hd, q⟩ => by
  cases hd
  exact fun p hp => q (.ref p) _ (fun a => Z a ∨ a = p) (.upd hp) (.one hp) (zok_one z hp fun _ => nofun) ⟨p, [], rfl, .inr rfl, upd_same, rfl⟩ fun _ a e => by cases e; exact hp
theorem AN_nil : PANx κ X [] ns0 := pa_mono pa_nil fun σ H Q ⟨δ, Z, z, E, d, hd, q⟩ => by cases hd; exact q [] H Z (.refl H) (.refl Z H) z rfl
theorem AN_cons (ha : PNx κ X e n) (hr : PANx κ X es ns) (hs : starEach (e :: es) X.env = (false, eval e X.env) :: starEach es X.env := by rfl) : PANx κ X (e :: es) (nsC n ns) := pa_mono (pa_cons ha hr hs) fun σ H Q ⟨δ, Z, z, E, d, hd, q⟩ => by
  obtain ⟨x, h1, h2⟩ := Option.bind_eq_some_iff.mp hd
  obtain ⟨y, h3, h4⟩ := Option.bind_eq_some_iff.mp h2
  cases h4
  refine ⟨δ, Z, z, E, x, h1, fun v H1 Z1 e1 g1 z1 s1 f1 => ⟨δ, Z1, z1, (E.grow g1).ext e1, y, h3, fun t H2 Z2 e2 g2 z2 n2 => q (v :: t) H2 Z2 (e1.trans e2) (g1.trans e1 g2) z2 ⟨v, t, rfl, (s1.grow g2).ext e2, fun o a ea => ⟨f1 o a ea, fun k s' hk os ht => ?_⟩, n2.mono fun a => ext_none e1⟩⟩⟩
  have h5 := n2.fresh k s' a hk os ht
  obtain ⟨b, h6, h7, h8⟩ := s1.owned o
  subst ea
  cases h6
  exact h8 h5
def sSet (i : Nat) (n : En → Option Sl) : Tt := fun C δ => ∃ sl, n δ = some sl ∧ C.nx (δ.put i sl)
theorem asg_n {K : PySem.W.Frag} {i : Nat} {D : Ends} {σ : L2.St} {H : Hp} (h : tPS K κ (sSet i n) D σ H) : tPN K κ n σ H (fun x H1 => gName i x σ H1 D.nx) := by
  obtain ⟨H₀, F, Z, C, δ, S, ⟨sl, h1, h2⟩, E⟩ := h
  exact ⟨δ, Z, S.z, S.env, sl, h1, fun v H' Z' e g z s fr => E.nx _ _ _ _ ((S.grow e g z).putNew ⟨Z, S⟩ s fr) h2⟩
theorem asg_px {K : PySem.W.Frag} {i : Nat} {D : Ends} {σ : L2.St} {H : Hp} (h : tPS K κ (sSet i (nSh f)) D σ H) : tPX K κ f σ H (fun x H1 => gName i x σ H1 D.nx) := by
  obtain ⟨δ, Z, z, E, sl, hd, q⟩ := asg_n h
  obtain ⟨d, h1, h2⟩ := Option.map_eq_some_iff.mp hd
  subst h2
  exact ⟨δ, Z, z, E, d, h1, fun v H' e r => q v H' Z e (.refl Z H) (z.ext e) ⟨v, rfl, r⟩ fun o => nomatch o⟩
theorem S_set (i : Nat) {x : Str} (hN : X.N.Nodup) (he : PNx κ X e n) (hi : X.N[i]? = some x := by rfl) (hx : Loc X.env.scope x := by first | exact Or.inl rfl | exact Or.inr rfl) (hs : swapsWith e (some (.Name x p)) pos.line X.env = pure false := by rfl) (hf : X.fn x = true ∨ X.env.scope.names.lookup x = some .local := by first | exact .inl rfl | exact .inr rfl | assumption) :
    PSx κ X (.Assign [.Name x p] e pos) (sSet i n) := ps_mono (ps_set hN hi hx he hs hf) fun D σ H h => asg_n h
/-- a target and a clean value -/
def sAsg (f : Ex) (g : Gx) : Tt := fun C δ => ∃ d, f δ = some d ∧ ∃ δ', g d δ = some δ' ∧ C.nx δ'
theorem S_asg {tg : Expr} {g : Gx} (he : PX κ X e f) (hg : GSx κ X tg g) (hs : swapsWithSole [tg] e pos.line X.env = pure false := by rfl) (hw : swappedStores [tg] e X.env = pure none := by rfl) (h1 : (assignEach [tg] X.env).map (·.2) = [assign tg X.env] := by rfl) : PSx κ X (.Assign [tg] e pos) (sAsg f g) :=
  ps_mono (ps_asg he hg hs hw h1) fun D σ H ⟨H₀, F, Z, C, δ, S, ⟨d, h1, δ', h2, h3⟩, E⟩ => ps_px S h1 fun v H' e S' r => ⟨H₀, F, Z, δ, d, S', r, δ', h2, fun σ' H'' e2 S2 => E.nx _ _ _ _ S2 h3⟩
/-- (a, b) = (x, y), plain local names -/
def sPar2 (i j : Nat) (ns : En → Option (List Sl)) : Tt := fun C δ => ∃ s t, ns δ = some [s, t] ∧ C.nx ((δ.put i s).put j t)
theorem put_ne {δ : En} {i j : Nat} {s : Sl} (h : j ≠ i) : (δ.put i s)[j]? = δ[j]? := List.getElem?_set_ne fun e => h e.symm
theorem StR.put2 {K : PySem.W.Frag} {H₀ : Hp} {F Z Z' : Addr → Prop} {σ : L2.St} {δ : En} {H H' : Hp} {i j : Nat} {s t : Sl} {v w : V} (S : StR K κ H₀ F Z σ δ H) (e : Ext H H') (g : Grow Z H Z') (z : ZOk Z' H') (hij : i ≠ j) (nw : NewS K κ H H' Z' [s, t] [v, w]) : StR K κ H₀ F Z' ((σ.set i (some v)).set j (some w)) ((δ.put i s).put j t) H' := by
  obtain ⟨v', t', e1, r1, f1, w', t2, e2, r2, f2, e3⟩ := nw
  cases e1
  cases e2
  have S1 := (S.grow e g z).putNew ⟨Z, S⟩ (i := i) r1 fun o a h => (f1 o a h).1
  refine S1.put r2 fun o a ea => ?_
  have hn := (f2 o a ea).1
  refine ⟨fun q => ?_, fun l sl nl hl ol e4 => ?_⟩
  · obtain ⟨_, h, _⟩ := S.z a (S.fz a q)
    rw [hn] at h; cases h
  · rcases put_at hl with ⟨rfl, rfl⟩ | ⟨n1, h3⟩
    · have := set_me e4
      exact (f1 ol a this.symm).2 0 t rfl o (by simp [ea])
    · rw [set_at n1] at e4
      obtain ⟨b, h1, h2, h5⟩ := (S.env.at_ l sl h3).owned ol
      rw [e4] at h1
      cases h1
      exact h5 hn
theorem S_par2 (i j : Nat) {x y : Str} {px py pt : Pos} {kt k2 pt2} (kn : Kn X k) (ha : PANx κ X [a, b] ns) (hi : X.N[i]? = some x := by rfl) (hj : X.N[j]? = some y := by rfl) (hij : i ≠ j := by decide) (hx : X.env.scope.names.lookup x = some .local := by rfl) (hy : X.env.scope.names.lookup y = some .local := by rfl)
    (hw : swappedStores [.Tuple [.Name x px, .Name y py] kt pt] (.Tuple [a, b] k2 pt2) X.env = pure (some [x, y]) := by rfl)
    (hs : swapsWithSole [.Tuple [.Name x px, .Name y py] kt pt] (.Tuple [a, b] k2 pt2) pos.line X.env = pure false := by rfl) : PSx κ X (.Assign [.Tuple [.Name x px, .Name y py] kt pt] (.Tuple [a, b] k2 pt2) pos) (sPar2 i j ns) :=
  ps_mono (ps_par kn.calm kn.nd hi hj hij hx hy ha hw hs) fun D σ H ⟨H₀, F, Z, C, δ, S, ⟨s, t, h1, h2⟩, E⟩ => ⟨δ, Z, S.z, S.env, _, h1, fun vs H' Z' e g z nw => by
    have nw0 := nw
    obtain ⟨v, t', rfl, _, _, w, t2, rfl, _, _, rfl⟩ := nw
    exact ⟨v, w, rfl, E.nx _ _ _ _ (S.put2 e g z hij nw0) h2⟩⟩
def sApp (i : Nat) (f : Ex) : Tt := fun C δ => ∃ ds d, δ[i]? = some (some (.ol ds)) ∧ f δ = some d ∧ ds.length < most ∧ C.nx (δ.put i (.ol (ds ++ [d])))
theorem S_app (i : Nat) {x : Str} {p1 p4 : Pos} (he : PX κ X e f) (hi : X.N[i]? = some x := by rfl) (hv : Vis X.env.scope x := by first | exact Or.inl rfl | exact Or.inr (Or.inl rfl) | exact Or.inr (Or.inr rfl)) (hd : (x == ("__debug__" : Str)) = false := by decide) (hcd : (x == ("__classdict__" : Str)) = false := by decide)
    (hbase : attributeBase (.Name x p1) "append" X.env (eval (.Name x p1) X.env) = eval (.Name x p1) X.env := by rfl)
    (hfew : ((backTo p4 (starEach [e] X.env)).all (fun x => !x.1) && (backToKw p4 (keywordEach [] X.env)).all (fun x => x.1.isSome) && decide (([e] : List Expr).length + ([] : List Keyword).length + (if ([] : List Keyword).isEmpty then 0 else 1) < 30)) = true := by rfl)
    (hline : (apos.endLine == p4.line) = true := by rfl) (hs1 : starEach [e] X.env = (false, eval e X.env) :: starEach [] X.env := by rfl) (hplain : (backTo p4 (starEach [] X.env)).any (·.1) = false := by rfl)
    (hs : swapsWith (.Call (.Attribute (.Name x p1) "append" apos) [e] [] p4) none pos.line X.env = pure false := by rfl) : PSx κ X (.Expr (.Call (.Attribute (.Name x p1) "append" apos) [e] [] p4) pos) (sApp i f) :=
  ps_mono (ps_expr (pe_bm PySem.F.plainAttrs_list PySem.F.slot_list_append PySem.F.type_list_append mt_append (pe_var hi hv hd hcd) (pa_cons he pa_nil hs1) hbase hfew hline hs1 hplain) hs) fun D σ H ⟨H₀, F, Z, C, δ, S, ⟨ds, d, h0, h1, hl, h2⟩, E⟩ => by
    obtain ⟨l, vs, q, z, b, c⟩ := S.env.at_ i _ h0
    refine ⟨_, q, .inl ⟨rfl, _, SqL.of b⟩, ps_px S h1 fun v H' e S' r => ?_⟩
    have b' := e _ _ b
    refine ⟨l, vs, v, rfl, rfl, b', by rw [c.length]; exact Nat.lt_of_lt_of_le hl (most_ok (Nat.le_refl _)), E.nx _ _ _ _ (S'.write (o := .lst (vs ++ [v])) h0 rfl rfl q z (fun _ => nofun) ?_) h2⟩
    have le : Le (hide Z H') (hide Z (upd H' l (.lst (vs ++ [v])))) := (show ExtZ _ _ _ from fun b q n h => by rw [upd_ne (fun e => n (by rw [e]; exact z))]; exact h).le
    exact ⟨l, _, rfl, z, upd_same, Reps.le le _ _ ((Reps.ext e c).snoc r)⟩
theorem repT_any {H : Hp} {k : List Key} : ∀ {kvs : List (D × D)} {l : List (List Key × V)}, RepT κ H kvs l → kvs.any (fun p => decide (p.1 = .tup (k.map keyD))) = l.any (fun p => decide (p.1 = k))
  | [], l, h => by subst h; rfl
  | (a, x) :: r, l, ⟨k', v', t, e, e2, h3, h4⟩ => by
    subst e e2
    rw [List.any_cons, List.any_cons, repT_any h4]
    congr 1
    exact decide_eq_decide.mpr ⟨fun e => keysD_inj (D.tup.inj e), fun e => congrArg (fun k => D.tup (k.map keyD)) e⟩
theorem repT_map {H : Hp} {k : List Key} {d : D} {v : V} (q : Rep κ H d v) : ∀ {kvs : List (D × D)} {l : List (List Key × V)}, RepT κ H kvs l → RepT κ H (kvs.map fun p => if p.1 = .tup (k.map keyD) then (p.1, d) else p) (l.map fun p => if p.1 = k then (p.1, v) else p)
  | [], l, h => by subst h; rfl
  | (a, x) :: r, l, ⟨k', v', t, e, e2, h3, h4⟩ => by
    subst e e2
    rw [List.map_cons, List.map_cons]
    by_cases hk : k' = k
    · subst hk
      rw [if_pos rfl, if_pos rfl]
      exact ⟨k', v, _, rfl, rfl, q, repT_map q h4⟩
    · rw [if_neg hk, if_neg (fun e => hk (keysD_inj (by injection e)))]
      exact ⟨k', v', _, rfl, rfl, h3, repT_map q h4⟩
theorem repT_app {H : Hp} {k : List Key} {d : D} {v : V} (q : Rep κ H d v) : ∀ {kvs : List (D × D)} {l : List (List Key × V)}, RepT κ H kvs l → RepT κ H (kvs ++ [(.tup (k.map keyD), d)]) (l ++ [(k, v)])
  | [], l, h => by subst h; exact ⟨k, v, [], rfl, rfl, q, rfl⟩
  | (a, x) :: r, l, ⟨k', v', t, e, e2, h3, h4⟩ => by
    subst e e2
    exact ⟨k', v', _, rfl, rfl, h3, repT_app q h4⟩
theorem repT_put {H : Hp} {k : List Key} {d : D} {v : V} (q : Rep κ H d v) {kvs : List (D × D)} {l : List (List Key × V)} (r : RepT κ H kvs l) : RepT κ H (dPut (.tup (k.map keyD)) d kvs) (putK l k v) := by
  unfold dPut putK
  rw [repT_any r]
  split
  · exact repT_map q r
  · exact repT_app q r
/-- x[key] = value, x an own dict by tuples -/
def sDputT (i : Nat) (fk fv : Ex) : Tt := fun C δ => ∃ kvs kd v, δ[i]? = some (some (.ot kvs)) ∧ fv δ = some v ∧ fk δ = some kd ∧ keyTOk kd = true ∧ kvs.length < most ∧ C.nx (δ.put i (.ot (dPut kd v kvs)))
theorem S_dputT (i : Nat) {x : Str} {p1 p4 : Pos} {ke : Expr} {fk : Ex} (kn : Kn X k) (hk : PX κ X ke fk) (he : PX κ X e f) (hs : swapsWith e (some (.Subscript (.Name x p1) ke p4)) pos.line X.env = pure false := by rfl) (hi : X.N[i]? = some x := by rfl) (hv : Vis X.env.scope x := by first | exact Or.inl rfl | exact Or.inr (Or.inl rfl) | exact Or.inr (Or.inr rfl)) (hd : (x == ("__debug__" : Str)) = false := by decide) (hcd : (x == ("__classdict__" : Str)) = false := by decide) :
    PSx κ X (.Assign [.Subscript (.Name x p1) ke p4] e pos) (sDputT i fk f) := ps_mono (ps_dput (hu_of kn.room) (pe_var hi hv hd hcd) hk he hs) fun D σ H ⟨H₀, F, Z, C, δ, S, ⟨kvs, kd, d, h0, h1, h2, h3, hl, h4⟩, E⟩ => ps_px S h1 fun v H1 e1 S1 r1 => by
  obtain ⟨l, vs, q, z, b, c⟩ := S1.env.at_ i _ h0
  refine ⟨_, q, ps_px S1 h2 fun y H2 e2 S2 r2 => ?_⟩
  have b' := e2 _ _ b
  cases kd <;> simp only [keyTOk] at h3 <;> first | (cases h3; done) | skip
  rename_i ks
  obtain ⟨p, us, rfl, hp, rs⟩ := r2
  obtain ⟨e3, e4⟩ := reps_keys h3 rs
  subst e3
  refine ⟨l, _, rfl, .t b' (hide_some.mp hp).2 (by rw [repT_len c]; exact Nat.lt_of_lt_of_le hl (most_ok (Nat.le_refl _))), E.nx _ _ _ _ (S2.write (o := .dT (putK vs (ks.map keyOf) v)) h0 rfl rfl q z (fun _ => nofun) ?_) h4⟩
  have le : Le (hide Z H2) (hide Z (upd H2 l (.dT (putK vs (ks.map keyOf) v)))) := (show ExtZ _ _ _ from fun b q n h => by rw [upd_ne (fun e => n (by rw [e]; exact z))]; exact h).le
  have rp := repT_put (k := ks.map keyOf) (Rep.ext e2 r1) (RepT.le (Ext.hide e2) _ _ c)
  rw [← e4] at rp
  exact ⟨l, _, rfl, z, upd_same, RepT.le le _ _ rp⟩
/-- x[key] = value, x an own dict by ints and texts -/
def sDputK (i : Nat) (fk fv : Ex) : Tt := fun C δ => ∃ kvs kd v, δ[i]? = some (some (.od kvs)) ∧ fv δ = some v ∧ fk δ = some kd ∧ keyOk kd = true ∧ kvs.length < most ∧ C.nx (δ.put i (.od (dPut kd v kvs)))
theorem S_dputK (i : Nat) {x : Str} {p1 p4 : Pos} {ke : Expr} {fk : Ex} (kn : Kn X k) (hk : PX κ X ke fk) (he : PX κ X e f) (hs : swapsWith e (some (.Subscript (.Name x p1) ke p4)) pos.line X.env = pure false := by rfl) (hi : X.N[i]? = some x := by rfl) (hv : Vis X.env.scope x := by first | exact Or.inl rfl | exact Or.inr (Or.inl rfl) | exact Or.inr (Or.inr rfl)) (hd : (x == ("__debug__" : Str)) = false := by decide) (hcd : (x == ("__classdict__" : Str)) = false := by decide) :
    PSx κ X (.Assign [.Subscript (.Name x p1) ke p4] e pos) (sDputK i fk f) := ps_mono (ps_dput (hu_of kn.room) (pe_var hi hv hd hcd) hk he hs) fun D σ H ⟨H₀, F, Z, C, δ, S, ⟨kvs, kd, d, h0, h1, h2, h3, hl, h4⟩, E⟩ => ps_px S h1 fun v H1 e1 S1 r1 => by
  obtain ⟨l, vs, q, z, b, c⟩ := S1.env.at_ i _ h0
  refine ⟨_, q, ps_px S1 h2 fun y H2 e2 S2 r2 => ?_⟩
  have b' := e2 _ _ b
  obtain ⟨e3, e4⟩ := rep1_key h3 (Rep1.of (K := X.K) r2)
  subst e3
  refine ⟨l, _, rfl, .k b' (by rw [repK_len c]; exact Nat.lt_of_lt_of_le hl (most_ok (Nat.le_refl _))), E.nx _ _ _ _ (S2.write (o := .dK (putK vs (keyOf kd) v)) h0 rfl rfl q z (fun _ => nofun) ?_) h4⟩
  have le : Le (hide Z H2) (hide Z (upd H2 l (.dK (putK vs (keyOf kd) v)))) := (show ExtZ _ _ _ from fun b q n h => by rw [upd_ne (fun e => n (by rw [e]; exact z))]; exact h).le
  refine ⟨l, _, rfl, z, upd_same, RepK.le le _ _ ?_⟩
  have := repK_put (k := keyOf kd) (Rep.ext e2 r1) (RepK.le (Ext.hide e2) _ _ c)
  rw [← e4] at this
  exact this
/-- self.name = value, self an own object -/
def putFD (n : Str) (d : D) : List (Str × D) → List (Str × D)
  | [] => [(n, d)]
  | (g, x) :: r => if g = n then (g, d) :: r else (g, x) :: putFD n d r
theorem repF_put {H : Hp} {n : Str} {d : D} {v : V} (q : Rep κ H d v) : ∀ {fs : List (Str × D)} {l : List (Str × V)}, RepF κ H fs l → RepF κ H (putFD n d fs) (putF n v l)
  | [], l, h => by subst h; exact ⟨v, [], rfl, q, rfl⟩
  | (a, x) :: r, l, ⟨v', t, e, h3, h4⟩ => by
    subst e
    unfold putFD putF
    by_cases hk : a = n
    · rw [if_pos hk, if_pos hk]
      exact ⟨v, t, rfl, q, h4⟩
    · rw [if_neg hk, if_neg hk]
      exact ⟨v', _, rfl, h3, repF_put q h4⟩
theorem repF_len {H : Hp} : ∀ {fs : List (Str × D)} {l : List (Str × V)}, RepF κ H fs l → l.length = fs.length
  | [], l, h => by subst h; rfl
  | (a, x) :: r, l, ⟨v', t, e, h3, h4⟩ => by subst e; simp [repF_len h4]
def sFldS (i : Nat) (cc : Nat) (n : Str) (f : Ex) : Tt := fun C δ => ∃ a fs d, δ[i]? = some (some (.oo a cc fs)) ∧ f δ = some d ∧ fs.length < 100 ∧ C.nx (δ.put i (.oo a cc (putFD n d fs)))
theorem S_fld (i : Nat) {cc : Nat} {x n : Str} {p1 p4 : Pos} (hC : Cls X.K (κ cc)) (hn : NoAttr X.K (κ cc) n) (he : PX κ X e f) (hs : swapsWith e (some (.Attribute (.Name x p1) n p4)) pos.line X.env = pure false := by rfl) (hi : X.N[i]? = some x := by rfl) (hv : Vis X.env.scope x := by first | exact Or.inl rfl | exact Or.inr (Or.inl rfl) | exact Or.inr (Or.inr rfl)) (hd : (x == ("__debug__" : Str)) = false := by decide) (hcd : (x == ("__classdict__" : Str)) = false := by decide) :
    PSx κ X (.Assign [.Attribute (.Name x p1) n p4] e pos) (sFldS i cc n f) := ps_mono (ps_fld (pe_var hi hv hd hcd) he hs) fun D σ H ⟨H₀, F, Z, C, δ, S, ⟨a0, fs, d, h0, h1, hl, h4⟩, E⟩ => ps_px S h1 fun v H1 e1 S1 r1 => by
  obtain ⟨l, dx, vs, ⟨q, ea⟩, z, b, c⟩ := S1.env.at_ i _ h0
  refine ⟨_, q, l, κ cc, dx, vs, rfl, b, hC, hn, by rw [repF_len c]; omega, E.nx _ _ _ _ (S1.write (o := .ins (κ cc) dx (putF n v vs)) h0 rfl rfl q z (fun _ => nofun) ?_) h4⟩
  have le : Le (hide Z H1) (hide Z (upd H1 l (.ins (κ cc) dx (putF n v vs)))) := (show ExtZ _ _ _ from fun b q n h => by rw [upd_ne (fun e => n (by rw [e]; exact z))]; exact h).le
  exact ⟨l, dx, _, ⟨rfl, ea⟩, z, upd_same, RepF.le le _ _ (repF_put r1 c)⟩
end
end BP
namespace BP
open PySem L2
section
variable {κ : Kap} {X : Cx} {a b c e : Expr} {es : List Expr} {f fa fb fc : Ex} {pos p p2 p3 apos spos py : Pos} {k : Nat}
theorem S_setLc (i : Nat) {y : Str} {elt tg iter : Expr} {ifs : List Expr} {scope : Scope} {own : List (Str × Nat)} {cc : Bool} {src : Sx} {g : Gx} {ss : List Nat} {pt : Tx} (kn : Kn X k) (hi : PIx κ X tg iter cc src) (ok : BlkOk X.N X.env.scope scope own)
    (hg : ∀ (s : Shared) (H : Hp) (C : Addr) (cl : List (Str × Addr)) (fp : List Addr), PGx κ (X.blk s H scope (compEnvC scope cl C X.env) fp) tg g ss) (ht : ∀ (s : Shared) (H : Hp) (C : Addr) (cl : List (Str × Addr)) (fp : List Addr), PTsx κ (X.blk s H scope (compEnvC scope cl C X.env) fp) ifs pt)
    (he : ∀ (s : Shared) (H : Hp) (C : Addr) (cl : List (Str × Addr)) (fp : List Addr), PX κ (X.blk s H scope (compEnvC scope cl C X.env) fp) elt f) (hss : ∀ i ∈ ss, i ∈ own.map (·.2) := by decide) (hs : ∀ x, foldedSetIterable iter X.env x = pure x := by intro _; rfl)
    (hy : X.N[i]? = some y := by rfl) (hyl : X.env.scope.names.lookup y = some .local := by rfl) (hsw : swapsWith (.ListComp elt [⟨tg, iter, ifs, 0⟩] scope pos) (some (.Name y py)) spos.line X.env = pure true := by rfl) :
    PSx κ X (.Assign [.Name y py] (.ListComp elt [⟨tg, iter, ifs, 0⟩] scope pos) spos) (sSet i (nSh (xLc src (own.map (·.2)) g pt f))) :=
  ps_mono (ps_setLc kn.calm kn.nd hy hyl hsw hi ok hg ht he hs) fun D σ H h => lc_of hss (asg_px h)
theorem ps_or {st : Stmt} {t t' : TS} (h : PS X st t) (h' : PS X st t') : PS X st (fun D σ H => t D σ H ∨ t' D σ H) := ⟨fun pins s σ H Q I q => q.elim (h.run pins s σ H Q I) (h'.run pins s σ H Q I)⟩
theorem S_setLcD (i : Nat) {y : Str} {elt tg iter e0 : Expr} {ifs : List Expr} {scope : Scope} {own : List (Str × Nat)} {P : L2.St → Hp → V → Prop} {h : List (D × D) → List D} {g : Gx} {ss : List Nat} {pt : Tx} {f0 : Ex} (kn : Kn X k) (pk : PEk κ X e0 f0 P) (hi : PI X tg iter (tIl X.K κ P f0 h)) (ok : BlkOk X.N X.env.scope scope own)
    (hg : ∀ (s : Shared) (H : Hp) (C : Addr) (cl : List (Str × Addr)) (fp : List Addr), PGx κ (X.blk s H scope (compEnvC scope cl C X.env) fp) tg g ss) (ht : ∀ (s : Shared) (H : Hp) (C : Addr) (cl : List (Str × Addr)) (fp : List Addr), PTsx κ (X.blk s H scope (compEnvC scope cl C X.env) fp) ifs pt)
    (he : ∀ (s : Shared) (H : Hp) (C : Addr) (cl : List (Str × Addr)) (fp : List Addr), PX κ (X.blk s H scope (compEnvC scope cl C X.env) fp) elt f) (hss : ∀ i ∈ ss, i ∈ own.map (·.2) := by decide) (hs : ∀ x, foldedSetIterable iter X.env x = pure x := by intro _; rfl)
    (hy : X.N[i]? = some y := by rfl) (hyl : X.env.scope.names.lookup y = some .local := by rfl) (hsw : swapsWith (.ListComp elt [⟨tg, iter, ifs, 0⟩] scope pos) (some (.Name y py)) spos.line X.env = pure true := by rfl) :
    PSx κ X (.Assign [.Name y py] (.ListComp elt [⟨tg, iter, ifs, 0⟩] scope pos) spos) (sSet i (nSh (xLc (sDct f0 h) (own.map (·.2)) g pt f))) := by
  have base := ps_setLc (py := py) (pos := pos) (spos := spos) (g := tPG X.K κ g ss) (tt := tPT X.K κ pt) (te := tPX X.K κ f) kn.calm kn.nd hy hyl hsw hi ok hg ht he hs
  refine ps_mono (ps_or base (ps_lock base)) fun D σ H h => ?_
  rcases locked_rd pk xLc_dct (asg_px h) with q | ⟨d, u, h1, h2, h3⟩
  · exact .inl (lcl_of hss q)
  · exact .inr ⟨d, u, h1, h2, fun od => lcl_of hss (h3 od)⟩
end
end BP
namespace BP
open PySem PySem.Spec L2
/-- such a comprehension -/
abbrev dc2 (kx vx t0 i0 t1 i1 : Expr) (scope : Scope) (pos : Pos) : Expr := .DictComp kx vx [⟨t0, i0, [], 0⟩, ⟨t1, i1, [], 0⟩] scope pos
/-- one key is put -/
theorem put_key {X : Cx} {pins : List (Addr × Obj)} {σ : St} {H H' : Hp} {s : Shared} {a : Addr} {y v : V} {u r : Value} {Err : Value → Shared → Prop} {Q : Unit → Shared → Prop} (room : X.A.units < cLine) (I : Inv X pins σ H s) (put : DPut H a y v H') (ry : RelV y u) (rv : RelV v r) (done : ∀ s', Inv X pins σ H' s' → Q () s') :
    wpAny (model X.prog X.w) X.A (dictSet a u r) Q Err s := by
  rcases put with ⟨l, k, at_, rfl, few, rfl⟩ | ⟨l, k, b, at_, rfl, tb, few, rfl⟩
  · obtain ⟨small, plain, ps, rel, isD⟩ := dk_of I.hok at_
    have few2 : (putK l k v).length ≤ sizeLine := by have := length_putK l k v; omega
    refine wpAny_dictSet_pairs (hsz := by rw [← rel.length]; exact small) (kV_is ry) isD fun hp isD' same => done _ (d_write I (by rw [at_]; trivial) same ?_ (dk_new few2 plain (rel.put k rv) isD'))
    obtain ⟨ob, _, _, there, _⟩ := isD'
    exact ⟨ob, there⟩
  · obtain rfl : u = .ref b := ry
    obtain ⟨small, plain, ps, rel, isD⟩ := dt_of I.hok at_
    have few2 : (putK l k v).length ≤ sizeLine := by have := length_putK l k v; omega
    refine wpAny_dictSet_heap (hsz := by rw [← Paired.length rel]; exact small) room (key_of I.hok tb) isD fun hp isD' same => done _ ?_
    obtain ⟨ob, es, ep, there, c1, c2, c3, _, c5⟩ := isD'
    refine d_write I (by rw [at_]; trivial) same ⟨ob, there⟩ ⟨few2, plain, _, (rel.put k tb rv).keeps fun c ys ec => ?_, ob, es, ep, there, c1, c2, c3, c5⟩
    have ne : c ≠ a := fun w => by rw [w, at_] at ec; cases ec
    rw [upd_ne ne]; exact ec
section
variable {Y : Cx} {P : List (Addr × Obj)} {tg : Expr} {J : It} {fp : List Addr} {it : Addr} {tn : Nat → Heap → Prop} {i : Nat} {s : Shared} {σ : St} {H : Hp} {g : TG}
/-- the iterator gives an item, the target takes it; pn: what must stay for the next turn -/
theorem lap (calm : Y.calm = true) (T : Turn Y.prog Y.w Y.K tg J fp it tn) (G : PG Y tg g) (I : Inv Y P σ H s) (ok : ∀ b ∈ fp, FpOk Y P H b) (st : tn i s.heap) (go : J.go i H) {QQ : St → Hp → Prop} (step : ∀ x H', J.yld i H x H' → g x σ H' QQ) (xe : Y.xe = fun _ _ => False) :
    wpAny (model Y.prog Y.w) Y.A (pyNext (.ref it)) (fun r s1 => ∃ u, r = some u ∧ wpAny (model Y.prog Y.w) Y.A (letOwnedTupleGo tg (.ref it) u) (fun _ s2 => wpAny (model Y.prog Y.w) Y.A (assign tg Y.env u)
      (fun _ s3 => ∃ (pn : List (Addr × Obj)) (σ' : St) (H' : Hp), Inv Y (P ++ pn) σ' H' s3 ∧ QQ σ' H' ∧ ∀ (σ2 : St) (H2 : Hp) (s4 : Shared), Inv Y (P ++ pn) σ2 H2 s4 → tn (i + 1) s4.heap ∧ ∀ b ∈ fp, H2 b = none) (fun _ _ => False) s2) (fun _ _ => False) s1) (fun _ _ => False) s := by
  refine thnF (T.item Y rfl rfl rfl calm i P s σ H (fun _ _ => False) I ok st go) fun r s1 ⟨u, e, q⟩ => ⟨u, e, thnF q fun _ s2 ⟨x, H2, I2, rx, y2, st2, n2⟩ => ?_⟩
  have okH : ∀ b ∈ fp, FpOk Y P H2 b := fun b hb => ⟨n2 b hb, (ok b hb).2⟩
  have I3 := I2.pinned okH (T.obj _ _ st2)
  have run := G.run _ s2 _ H2 x u _ I3 rx (step x H2 y2)
  rw [xe] at run
  refine thnF run fun _ s3 ⟨σ3, H3, I4, q3⟩ => ⟨pinsAt fp s2.heap, σ3, H3, I4, q3, fun σ4 H4 s4 I5 => ?_⟩
  have pin : ∀ b ∈ fp, ∀ o, s2.heap.get? b = some o → s4.heap.get? b = some o ∧ H4 b = none := fun b hb o ho => by
    have := I5.pin (b, o) (List.mem_append_right _ (List.mem_append_right _ (mem_pinsAt hb ho)))
    exact ⟨this.1, this.2.1⟩
  refine ⟨T.keep _ _ _ st2 fun b hb o ho => (pin b hb o ho).1, fun b hb => ?_⟩
  obtain ⟨o, ho, _⟩ := T.obj _ _ st2 b hb
  exact (pin b hb o ho).2
end
section
variable {prog : Program} {w : World} {A : Around} {R : Result → Shared → Prop} {s : Shared} {kx vx t0 i0 t1 i1 : Expr} {scope : Scope} {pos : Pos} {it : Value} {D : Addr} {env : Env}
theorem turn_in : compTurn (dc2 kx vx t0 i0 t1 i1 scope pos) 1 it (.ref D) env = (do
      standAt i1.pos
      match ← pyNext it with
      | none => pure (.done .next)
      | some v =>
        letOwnedTupleGo t1 it v
        assign t1 env v
        (do
          let key ← eval kx env
          let val ← holding [key] (eval vx env)
          standAt { kx.pos with endLine := vx.pos.endLine, endCol := vx.pos.endCol }
          holding [key, val] (dictSet D key val))
        again (.compLoop (dc2 kx vx t0 i0 t1 i1 scope pos) 1 it (.ref D) env)) := by rfl
theorem turn_out : compTurn (dc2 kx vx t0 i0 t1 i1 scope pos) 0 it (.ref D) env = (do
      standAt i0.pos
      match ← pyNext it with
      | none => pure (.done .next)
      | some v =>
        letOwnedTupleGo t0 it v
        assign t0 env v
        let x ← eval i1 env
        standAt i1.pos
        let x ← foldedSetIterable i1 env x
        let _ ← runOwn (.compStart (dc2 kx vx t0 i0 t1 i1 scope pos) 1 (← holding [x] (pyIter x)) (.ref D) env) env
        again (.compLoop (dc2 kx vx t0 i0 t1 i1 scope pos) 0 it (.ref D) env)) := by rfl
/-- the loop of the second clause -/
theorem loop_in (W : Nat → Shared → Prop)
    (turn : ∀ n s, W n s → wpAny (model prog w) A (pyNext it) (fun r s1 => match r with
      | none => R (.ok .next) s1
      | some v => wpAny (model prog w) A (letOwnedTupleGo t1 it v) (fun _ s2 => wpAny (model prog w) A (assign t1 env v) (fun _ s3 => wpAny (model prog w) A (eval kx env) (fun key s4 => wpAny (model prog w) A (eval vx env) (fun val s5 =>
          wpAny (model prog w) A (dictSet D key val) (fun _ s6 => ∃ m, m < n ∧ W m s6) (fun _ _ => False) s5) (fun _ _ => False) s4) (fun _ _ => False) s3) (fun _ _ => False) s2) (fun _ _ => False) s1) (fun _ _ => False) s)
    (n : Nat) (h : W n s) : codeAny (model prog w) A (.compLoop (dc2 kx vx t0 i0 t1 i1 scope pos) 1 it (.ref D) env) R s := by
  refine codeAny_loop rfl W (fun n s hW => ?_) n h
  show wpAny _ A ((compTurn (dc2 kx vx t0 i0 t1 i1 scope pos) 1 it (.ref D) env).onRaise fun x => do noteFrame x env; theTreesLotGoes x) _ _ s
  refine wpAny_noted ?_
  rw [turn_in]
  refine wpAny_bind (wpAny_standAt (wpAny_bind (thnF (turn n s hW) fun r s1 h1 => ?_)))
  cases r with
  | none => exact wpAny_pure h1
  | some v => exact wpAny_bind (thnF h1 fun _ s2 h2 => wpAny_bind (thnF h2 fun _ s3 h3 => wpAny_bind (wpAny_bind (thnF h3 fun key s4 h4 => wpAny_bind (wpAny_holding (thnF h4 fun val s5 h5 => wpAny_bind (wpAny_standAt (wpAny_holding (thnF h5 fun _ s6 h6 => wpAny_pure ⟨rfl, h6⟩)))))))))
/-- the second clause begins -/
theorem start_in (h : codeAny (model prog w) A (.compLoop (dc2 kx vx t0 i0 t1 i1 scope pos) 1 it (.ref D) env) R s)
    (self : wpAny (model prog w) A (pyIter it) (fun it' s' => codeAny (model prog w) A (.compLoop (dc2 kx vx t0 i0 t1 i1 scope pos) 1 it' (.ref D) env) R s') (fun _ _ => False) s) :
    codeAny (model prog w) A (.compStart (dc2 kx vx t0 i0 t1 i1 scope pos) 1 it (.ref D) env) R s := by
  refine codeAny_of_tree ?_
  show wpAny _ A ((compStart (dc2 kx vx t0 i0 t1 i1 scope pos) 1 it (.ref D) env).onRaise fun x => do noteFrame x env; standAt theWindowsPlace) _ _ s
  refine wpAny_notedAt ?_
  unfold compStart
  show wpAny _ A (ask >>= _) _ _ s
  refine wpAny_bind (wpAny_askSetting (wpAny_ite ?_))
  split
  · first | exact wpAny_pure ⟨rfl, h⟩ | exact wpAny_bind (wpAny_pure (wpAny_pure ⟨rfl, h⟩))
  · refine wpAny_bind (wpAny_rule ?_)
    first
      | exact wpAny_bind (wpAny_standAt (wpAny_bind (thnF self fun it' s' h' => wpAny_pure ⟨rfl, h'⟩)))
      | (show wpAny _ _ (standAt i1.pos >>= _) _ _ s; exact wpAny_bind (wpAny_standAt (wpAny_bind (thnF self fun it' s' h' => wpAny_pure ⟨rfl, h'⟩))))
/-- the loop of the first -/
theorem loop_out (hs : ∀ x, foldedSetIterable i1 env x = pure x) (W : Nat → Shared → Prop)
    (turn : ∀ n s, W n s → wpAny (model prog w) A (pyNext it) (fun r s1 => match r with
      | none => R (.ok .next) s1
      | some v => wpAny (model prog w) A (letOwnedTupleGo t0 it v) (fun _ s2 => wpAny (model prog w) A (assign t0 env v) (fun _ s3 => wpAny (model prog w) A (eval i1 env) (fun x s4 => wpAny (model prog w) A (pyIter x) (fun it1 s5 =>
          codeAny (model prog w) A (.compStart (dc2 kx vx t0 i0 t1 i1 scope pos) 1 it1 (.ref D) env) (fun r s' => match r with
            | .ok _ => ∃ m, m < n ∧ W m s'
            | .error _ => False) s5) (fun _ _ => False) s4) (fun _ _ => False) s3) (fun _ _ => False) s2) (fun _ _ => False) s1) (fun _ _ => False) s)
    (n : Nat) (h : W n s) : codeAny (model prog w) A (.compLoop (dc2 kx vx t0 i0 t1 i1 scope pos) 0 it (.ref D) env) R s := by
  refine codeAny_loop rfl W (fun n s hW => ?_) n h
  show wpAny _ A ((compTurn (dc2 kx vx t0 i0 t1 i1 scope pos) 0 it (.ref D) env).onRaise fun x => do noteFrame x env; theTreesLotGoes x) _ _ s
  refine wpAny_noted ?_
  rw [turn_out]
  refine wpAny_bind (wpAny_standAt (wpAny_bind (thnF (turn n s hW) fun r s1 h1 => ?_)))
  cases r with
  | none => exact wpAny_pure h1
  | some v =>
    refine wpAny_bind (thnF h1 fun _ s2 h2 => wpAny_bind (thnF h2 fun _ s3 h3 => wpAny_bind (thnF h3 fun x s4 h4 => ?_)))
    refine wpAny_bind (wpAny_standAt (wpAny_bind (wpAny_of_eq (hs x) (wpAny_bind (wpAny_holding (thnF h4 fun it1 s5 h5 => ?_))))))
    refine wpAny_bind (wpAny_runOwn ?_)
    rw [Around.mark_none]
    refine codeAny_mono h5 fun r s' hr => ?_
    cases r with
    | ok f => first | exact wpAny_pure ⟨rfl, hr⟩ | exact wpAny_bind (wpAny_pure (wpAny_pure ⟨rfl, hr⟩))
    | error e => exact hr.elim
end
section
variable {X : Cx}
def tDc2 (e0 : HO) (wi : TI) (g : TG) (wi1 : TI) (g1 : TG) (tk tv : TE) (vs vs1 : List Nat) : TE := fun σ H Q => wi σ H fun J H1 => ∀ D, H1 D = none → ∃ W : Nat → Nat → Hp → Prop, (∃ m, W 0 m (upd H1 D e0)) ∧ ∀ i m H, W i m H →
  (J.stop i H ∧ Q (.ref D) H) ∨ (J.go i H ∧ ∃ Nx : Hp → Prop, (∀ H', Nx H' → ∃ m', m' < m ∧ W (i + 1) m' H') ∧ ∀ x H', J.yld i H x H' → g x (L2.wipe σ vs) H' fun σ2 H2 => L2.wipe σ2 vs = L2.wipe σ vs ∧
    wi1 σ2 H2 fun J1 H3 => ∃ W1 : Nat → Nat → Hp → Prop, (∃ m, W1 0 m H3) ∧ ∀ j k H, W1 j k H →
      (J1.stop j H ∧ Nx H) ∨ (J1.go j H ∧ ∃ Nx1 : Hp → Prop, (∀ H', Nx1 H' → ∃ k', k' < k ∧ W1 (j + 1) k' H') ∧ ∀ x H', J1.yld j H x H' → g1 x (L2.wipe σ2 vs1) H' fun σ3 H4 => L2.wipe σ3 vs1 = L2.wipe σ2 vs1 ∧
        tk σ3 H4 fun y H5 => tv σ3 H5 fun z H6 => ∃ H7, DPut H6 D y z H7 ∧ Nx1 H7))
/-- the inner loop, in the block -/
theorem inner {Y : Cx} {P : List (Addr × Obj)} {kx vx t0 i0 t1 i1 : Expr} {scope : Scope} {pos : Pos} {D it1 : Addr} {fp1 : List Addr} {tn1 : Nat → Heap → Prop} {J1 : It} {g1 : TG} {tk tv : TE} {σa : St} {va : List Nat} {Nx : Hp → Prop} {W1 : Nat → Nat → Hp → Prop} {R : Result → Shared → Prop} (calm : Y.calm = true) (xe : Y.xe = fun _ _ => False) (room : Y.A.units < cLine)
    (T1 : Turn Y.prog Y.w Y.K t1 J1 fp1 it1 tn1) (G1 : PG Y t1 g1) (Ek : PE Y kx tk) (Ev : PE Y vx tv) (fpo : ∀ (H' : Hp), (∀ b ∈ fp1, H' b = none) → ∀ b ∈ fp1, FpOk Y P H' b)
    (turn1 : ∀ j k H, W1 j k H → (J1.stop j H ∧ Nx H) ∨ (J1.go j H ∧ ∃ Nx1 : Hp → Prop, (∀ H', Nx1 H' → ∃ k', k' < k ∧ W1 (j + 1) k' H') ∧ ∀ x H', J1.yld j H x H' → g1 x (L2.wipe σa va) H' fun σ3 H4 => L2.wipe σ3 va = L2.wipe σa va ∧
      tk σ3 H4 fun y H5 => tv σ3 H5 fun z H6 => ∃ H7, DPut H6 D y z H7 ∧ Nx1 H7))
    (fin : ∀ H' s', Inv Y P (L2.wipe σa va) H' s' → Nx H' → R (.ok .next) s') {k : Nat} {s : Shared} (h : ∃ j H', Inv Y P (L2.wipe σa va) H' s ∧ tn1 j s.heap ∧ (∀ b ∈ fp1, H' b = none) ∧ W1 j k H') :
    codeAny (model Y.prog Y.w) Y.A (.compLoop (dc2 kx vx t0 i0 t1 i1 scope pos) 1 (.ref it1) (.ref D) Y.env) R s := by
  refine loop_in (fun k s' => ∃ j H', Inv Y P (L2.wipe σa va) H' s' ∧ tn1 j s'.heap ∧ (∀ b ∈ fp1, H' b = none) ∧ W1 j k H') (fun n s hW => ?_) k h
  obtain ⟨j, H5, I5, st5, n5, w5⟩ := hW
  rcases turn1 j n H5 w5 with ⟨stop, nx⟩ | ⟨go, Nx1, hNx, step⟩
  · refine thnF (T1.done Y rfl rfl rfl calm j P s (L2.wipe σa va) H5 (fun _ _ => False) I5 (fpo H5 n5) st5 stop) fun r s6 ⟨hr, I6⟩ => ?_
    subst hr
    exact fin H5 s6 I6 nx
  · refine thnF (lap calm T1 G1 I5 (fpo H5 n5) st5 go step xe) fun r s6 ⟨u, hr, q⟩ => ?_
    subst hr
    refine thnF q fun _ s7 q7 => thnF q7 fun _ s8 ⟨pn, σ8, H8, I8, ⟨hw, q8⟩, back⟩ => ?_
    have r1 := Ek.run _ s8 σ8 H8 _ I8 q8
    rw [xe] at r1
    refine thnF r1 fun key s9 ⟨y, H9, I9, ry, q9⟩ => ?_
    have r2 := Ev.run _ s9 σ8 H9 _ I9 q9
    rw [xe] at r2
    refine thnF r2 fun val s10 ⟨z, H10, I10, rz, H11, put, nx⟩ => put_key room I10 put ry rz fun s11 I11 => ?_
    obtain ⟨m', hm, w'⟩ := hNx H11 nx
    obtain ⟨st', n'⟩ := back σ8 H11 s11 I11
    exact ⟨m', hm, j + 1, H11, (I11.unpinned).weak (by rw [← hw, L2.wipe_length]) (fun l v e => by rw [← hw] at e; exact (L2.wipe_some e).1), st', n', w'⟩
/-- the empty dict that is laid -/
theorem new_dict {pins : List (Addr × Obj)} {σ : St} {H : Hp} {s : Shared} {D : Addr} {e0 : HO} (I : Inv X pins σ H s) (hD : s.heap.objs.size = D) (he : e0 = .dK [] ∨ e0 = .dT []) : Inv X pins σ (upd H D e0) { s with heap := s.heap.push { cls := .type "dict", data := .dict #[] } } := by
  refine I.laid (t' := s.toks) (fun b o e => Heap.get?_push_of_some _ e) (Nat.le_of_eq hD) ?_
  subst hD
  rcases he with rfl | rfl
  · exact dk_empty s.heap I.big
  · exact dt_empty s.heap I.big
theorem pe_dc2 {kx vx tg iter tg1 iter1 : Expr} {scope : Scope} {own : List (Str × Nat)} {vs1 : List Nat} {pos : Pos} {wi wi1 : TI} {g g1 : TG} {tk tv : TE} {e0 : HO} (he0 : e0 = .dK [] ∨ e0 = .dT []) (room : X.A.units < cLine) (hc : X.calm = true) (hN : X.N.Nodup) (hi : PI X tg iter wi) (ok : BlkOk X.N X.env.scope scope own) (hv : ∀ i ∈ vs1, i ∈ own.map (·.2))
    (hg : ∀ (s : Shared) (H : Hp) (C : Addr) (cl : List (Str × Addr)) (fp : List Addr), PG (X.blk s H scope (compEnvC scope cl C X.env) fp) tg g)
    (hi1 : ∀ (s : Shared) (H : Hp) (C : Addr) (cl : List (Str × Addr)) (fp : List Addr), PI (X.blk s H scope (compEnvC scope cl C X.env) fp) tg1 iter1 wi1)
    (hg1 : ∀ (s : Shared) (H : Hp) (C : Addr) (cl : List (Str × Addr)) (fp : List Addr), PG (X.blk s H scope (compEnvC scope cl C X.env) fp) tg1 g1)
    (hk : ∀ (s : Shared) (H : Hp) (C : Addr) (cl : List (Str × Addr)) (fp : List Addr), PE (X.blk s H scope (compEnvC scope cl C X.env) fp) kx tk)
    (hx : ∀ (s : Shared) (H : Hp) (C : Addr) (cl : List (Str × Addr)) (fp : List Addr), PE (X.blk s H scope (compEnvC scope cl C X.env) fp) vx tv)
    (hs : ∀ x, foldedSetIterable iter X.env x = pure x := by intro _; rfl) (hs1 : ∀ env x, foldedSetIterable iter1 env x = pure x := by intro _ _; rfl) :
    PE X (dc2 kx vx tg iter tg1 iter1 scope pos) (tDc2 e0 wi g wi1 g1 tk tv (own.map (·.2)) vs1) := by
  refine ⟨fun pins s σ H Q I h => ?_⟩
  rw [arm_eval_DictComp]
  have hfree : ∀ y ∈ scope.names, y.2 = .free → ∃ c, X.env.cells.lookup y.1 = some c := fun y hy e => (ok.free y hy e).elim (fun k => I.ok.has _ (.inl k)) fun k => I.ok.has _ (.inr k)
  refine wpAny_comprehension_free (use := none) rfl hs (closure_ok hfree) ok.kind (fun y hy e => by rw [ok.uniq y hy, e]) (thn (hi.run pins s σ H _ I h) fun xv s1 hx1 => thn hx1 fun itv s2 h2 => ?_)
  obtain ⟨it, fp, tn, J, H2, rfl, I2, T, st2, f2, q⟩ := h2
  refine wpAny_newObj_type (newEnv_comp ?_)
  obtain ⟨D, hD⟩ : ∃ D, s2.heap.objs.size = D := ⟨_, rfl⟩
  rw [hD]
  obtain ⟨W, ⟨m0, w0⟩, turn⟩ := q D (I2.hok.fresh (Nat.le_of_eq hD))
  have I3 := new_dict I2 hD he0
  have lt : ∀ b ∈ fp, b < D := fun b hb => by
    obtain ⟨o, e, _⟩ := T.obj _ _ st2 b hb
    rw [← hD]; exact Heap.lt_size e
  have f3 : ∀ b ∈ fp, FpOk X pins (upd H2 D e0) b := fun b hb => ⟨by rw [upd_ne (Nat.ne_of_lt (lt b hb))]; exact (f2 b hb).1, (f2 b hb).2⟩
  have st3 := T.keep _ _ (s2.heap.push { cls := .type "dict", data := .dict #[] }) st2 fun b _ o e => Heap.get?_push_of_some _ e
  revert w0 f3 st3 I3
  generalize upd H2 D e0 = H3
  generalize hs3 : ({ s2 with heap := s2.heap.push { cls := .type "dict", data := .dict #[] } } : Shared) = s3
  have hh3 : s2.heap.push { cls := .type "dict", data := .dict #[] } = s3.heap := by rw [← hs3]
  have hz3 : s3.heap.objs.size = D + 1 := by rw [← hh3, Heap.size_push, hD]
  have eh : ∀ hp : Heap, ({ s2 with heap := hp } : Shared) = { s3 with heap := hp } := fun hp => by rw [← hs3]
  rw [hh3]
  intro w0 I3 f3 st3
  have I4 := block_start I3 ok hN fun b hb => ⟨f3 b hb, by rw [hz3]; exact Nat.lt_succ_of_lt (lt b hb)⟩
  have pg := hg s3 H3 s3.heap.objs.size (cellsFrom (s3.heap.objs.size + 1) scope.names (cloFrom X.env.cells scope.names [])) fp
  have pi1 := hi1 s3 H3 s3.heap.objs.size (cellsFrom (s3.heap.objs.size + 1) scope.names (cloFrom X.env.cells scope.names [])) fp
  have pg1 := hg1 s3 H3 s3.heap.objs.size (cellsFrom (s3.heap.objs.size + 1) scope.names (cloFrom X.env.cells scope.names [])) fp
  have pk := hk s3 H3 s3.heap.objs.size (cellsFrom (s3.heap.objs.size + 1) scope.names (cloFrom X.env.cells scope.names [])) fp
  have px := hx s3 H3 s3.heap.objs.size (cellsFrom (s3.heap.objs.size + 1) scope.names (cloFrom X.env.cells scope.names [])) fp
  have st4 := T.keep _ _ (pushCells (s3.heap.push { cls := .type "dict", data := .dict #[] }) scope.names) st3 fun b _ o e => pushCells_keeps _ _ _ _ (Heap.get?_push_of_some _ e)
  -- the block
  generalize hcl : cellsFrom (s3.heap.objs.size + 1) scope.names (cloFrom X.env.cells scope.names []) = cl at *
  show codeAny _ _ (.compStart (dc2 kx vx tg iter tg1 iter1 scope pos) 0 (.ref it) (.ref D) (compEnvC scope cl s3.heap.objs.size X.env)) (compPost (model X.prog X.w) X.A X.xe none (EP X pins σ Q) (.ref D) s3.heap.objs.size) { s3 with heap := pushCells (s3.heap.push { cls := .type "dict", data := .dict #[] }) scope.names }
  generalize hs4 : ({ s3 with heap := pushCells (s3.heap.push { cls := .type "dict", data := .dict #[] }) scope.names } : Shared) = s4 at I4 ⊢
  have st4 : tn 0 s4.heap := by rw [← hs4]; exact st4
  obtain ⟨Y, hY⟩ : ∃ Y, X.blk s3 H3 scope (compEnvC scope cl s3.heap.objs.size X.env) fp = Y := ⟨_, rfl⟩
  have hce : Y.env = compEnvC scope cl s3.heap.objs.size X.env := by rw [← hY]
  have hloc : Y.env.locals = s3.heap.objs.size := by rw [hce]; rfl
  rw [← hce]
  have yp : Y.prog = X.prog := by rw [← hY]
  have yw : Y.w = X.w := by rw [← hY]
  have yA : Y.A = X.A := by rw [← hY]
  have yK : Y.K = X.K := by rw [← hY]
  have yc : Y.calm = true := by rw [← hY]; exact hc
  have yx : Y.xe = fun _ _ => False := by rw [← hY]
  have back : ∀ {σ' : St} {H' : Hp} {s' : Shared}, Inv Y [] σ' H' s' → Inv X pins σ H' s' ∧ H' s3.heap.objs.size = none ∧ ∃ m, s'.heap.Ns s3.heap.objs.size m := fun {σ' H' s'} I' => by
    have nC : H' Y.env.locals = none := I'.free
    obtain ⟨m, hn, _⟩ := I'.loc
    rw [hloc] at nC
    have hn : s'.heap.Ns Y.env.locals m := hn
    rw [hloc] at hn
    rw [← hY] at I'
    exact ⟨I3.call' (ch := fp) I'.os I'.base I'.hok I'.bare fun b hb => ⟨(f3 b hb).2.2.2.1, (f3 b hb).2.1, (f3 b hb).2.2.2.2.1, (f3 b hb).2.2.2.2.2⟩, nC, m, hn⟩
  have stay : ∀ {σ' : St} {H' : Hp} {s' : Shared}, Inv Y [] σ' H' s' → (∀ b ∈ fp, H' b = none) → ∀ b ∈ fp, FpOk Y [] H' b := fun {σ' H' s'} I' hn b hb => by
    rw [← hY] at I' ⊢
    exact ⟨hn b hb, (I'.ok.exf b hb).1, I'.ok.exfs b hb, .inl hb, fun x c e => (I'.ok.exf b hb).2 x c e, fun p hp => absurd (show p ∈ ([] : List (Addr × Obj)) ++ [] from hp) (by simp)⟩
  rw [hY] at I4 pg pi1 pg1 pk px
  have n3 : ∀ b ∈ fp, H3 b = none := fun b hb => (f3 b hb).1
  rw [← yp, ← yw, ← yK] at T
  have key : codeAny (model Y.prog Y.w) Y.A (.compLoop (dc2 kx vx tg iter tg1 iter1 scope pos) 0 (.ref it) (.ref D) Y.env) (compPost (model X.prog X.w) X.A X.xe none (EP X pins σ Q) (.ref D) s3.heap.objs.size) s4 := by
    refine loop_out (hs1 Y.env) (fun n s' => ∃ i H', Inv Y [] (L2.wipe σ (own.map (·.2))) H' s' ∧ tn i s'.heap ∧ (∀ b ∈ fp, H' b = none) ∧ W i n H') (fun n s5 hW => ?_) m0 ⟨0, H3, I4, st4, n3, w0⟩
    obtain ⟨i, H5, I5, st5, n5, w5⟩ := hW
    rcases turn i n H5 w5 with ⟨stop, qq⟩ | ⟨go, Nx, hNx, step⟩
    · refine thnF (T.done Y rfl rfl rfl yc i [] s5 _ H5 (fun _ _ => False) I5 (stay I5 n5) st5 stop) fun r s6 ⟨hr, I6⟩ => ?_
      subst hr
      obtain ⟨I7, nC, m, hn⟩ := back I6
      refine ⟨m, hn, fun h'' sb => ?_⟩
      obtain ⟨_, f1, f2, f3, f4, f5⟩ := I3.fpOk (Nat.le_refl _) nC
      exact ⟨.ref D, H5, I7.turned (t' := s6.toks) (fun b o hb e => (sb.2 b hb).trans e) nC f1 f3 f4 f5, rfl, qq⟩
    · refine thnF (lap yc T pg I5 (stay I5 n5) st5 go step yx) fun r s6 ⟨u, hr, q⟩ => ?_
      subst hr
      refine thnF q fun _ s7 q7 => thnF q7 fun _ s8 ⟨pn, σ8, H8, I8, ⟨hw, q8⟩, bk⟩ => ?_
      have r1 := pi1.run _ s8 σ8 H8 _ I8 q8
      rw [yx] at r1
      refine thnF r1 fun xv s9 hx9 => thnF hx9 fun itv s10 h10 => ?_
      obtain ⟨it1, fp1, tn1, J1, H10, rfl, I10, T1, st10, f10, W1, ⟨m1, w1⟩, turn1⟩ := h10
      have hl8 : (L2.wipe σ (own.map (·.2))).length = σ8.length := by rw [← hw, L2.wipe_length]
      have hk8 : ∀ (j : Nat) v, (L2.wipe σ (own.map (·.2)))[j]? = some (some v) → (L2.wipe σ8 vs1)[j]? = some (some v) := fun j v e => by
        rw [← hw] at e
        obtain ⟨e1, e2⟩ := L2.wipe_some e
        rw [L2.wipe_out fun z => e2 (hv j z)]
        exact e1
      have lp : codeAny (model Y.prog Y.w) Y.A (.compLoop (dc2 kx vx tg iter tg1 iter1 scope pos) 1 (.ref it1) (.ref D) Y.env) (fun r s' => match r with
            | .ok _ => ∃ m, m < n ∧ ∃ i H', Inv Y [] (L2.wipe σ (own.map (·.2))) H' s' ∧ tn i s'.heap ∧ (∀ b ∈ fp, H' b = none) ∧ W i m H'
            | .error _ => False) s10 := by
        refine inner (P := [] ++ pn) (Nx := Nx) (W1 := W1) (k := m1) yc yx (by rw [yA]; exact room) T1 pg1 pk px (fun H' hn b hb => ⟨hn b hb, (f10 b hb).2⟩) (fun j k H hw1 => ?_) (fun H' s' I' nx => ?_) ⟨0, H10, I10.weak (σ' := L2.wipe σ8 vs1) (L2.wipe_length _ _) (fun j v e => (L2.wipe_some e).1), st10, fun b hb => (f10 b hb).1, w1⟩
        · exact turn1 j k H hw1
        · obtain ⟨m', hm, w'⟩ := hNx H' nx
          obtain ⟨st', n'⟩ := bk _ _ _ I'
          exact ⟨m', hm, i + 1, H', I'.unpinned.weak (hl8.trans (L2.wipe_length σ8 vs1).symm) hk8, st', n', w'⟩
      exact start_in lp (T1.self Y.A 0 _ _ _ st10 lp)
  rw [yp, yw, yA] at key
  rw [yp, yw] at T
  exact codeAny_compStart_dict key (T.self X.A 0 _ _ _ st4 key)
end
end BP
namespace BP
open PySem L2
/-- the value of one with two clauses -/
def xLc2 (src : Sx) (w : List Nat) (g : Gx) (src1 : Sx) (w1 : List Nat) (g1 : Gx) (f : Ex) : Ex := fun δ => (src δ).bind fun ds => (cL2 g tTrue src1 w1 g1 tTrue f (δ.wipe w) ds).bind fun ys => if ys.length ≤ most then some (.lst ys) else none
section
variable {K : PySem.W.Frag} {κ : Kap}
theorem tPG_of {g : Gx} {ss : List Nat} {x : V} {σ : L2.St} {H : Hp} {Z : Addr → Prop} {δ δ' : En} {d : D} {w : List Nat} {Q : L2.St → Hp → Prop} (z : ZOk Z H) (E : EnvR K κ H Z σ δ) (r : Rep κ (hide Z H) d x) (h : g d δ = some δ') (hss : ∀ i ∈ ss, i ∈ w) (q : ∀ σ' H', Ext H H' → EnvR K κ H' Z σ' δ' → L2.wipe σ' w = L2.wipe σ w → Unc σ δ σ' δ' → Q σ' H') : tPG K κ g ss x σ H Q :=
  ⟨δ, Z, d, z, E, r, δ', h, fun σ' H' e E' hw u => q σ' H' e E' (hw w hss) u⟩
theorem zok_D {Z : Addr → Prop} {H1 H : Hp} {D : Addr} {o : HO} (z : ZOk Z H1) (e : Ext H1 H) (hd : H D = some o) (n : ∀ xs, o ≠ .tup xs) : ZOk (fun a => Z a ∨ a = D) H := fun a h => by
  rcases h with h | h
  · exact (z.ext e) a h
  · subst h; exact ⟨_, hd, n⟩
theorem le_write {Z : Addr → Prop} {H : Hp} {D : Addr} {o : HO} : Le (hide (fun a => Z a ∨ a = D) H) (hide (fun a => Z a ∨ a = D) (upd H D o)) := (show ExtZ _ _ _ from fun a u n h => by rw [upd_ne (fun q => n (.inr q))]; exact h).le
theorem ext_write {H1 H : Hp} {D : Addr} {o : HO} (e : Ext H1 H) (hD : H1 D = none) : Ext H1 (upd H D o) := fun a u h => by
  rw [upd_ne (fun q => by rw [q, hD] at h; cases h)]
  exact e a u h
/-- an environment of a block, later: what is clean stands, and what stood before the block -/
theorem EnvR.later {H1 H4 H : Hp} {Z : Addr → Prop} {D : Addr} {σ : L2.St} {δ : En} (z : ZOk Z H1) (E : EnvR K κ H4 (fun a => Z a ∨ a = D) σ δ) (own : ∀ (i : Nat) (s : Sl) (a : Addr), δ[i]? = some (some s) → slOwn s = true → σ[i]? = some (some (.ref a)) → a ≠ D) (e4 : Ext H1 H4) (e : Ext H1 H) (eZ : ExtZ (fun a => Z a ∨ a = D) H4 H) : EnvR K κ H (fun a => Z a ∨ a = D) σ δ := by
  have st : ∀ (i : Nat) (s : Sl) (a : Addr) (o : HO), δ[i]? = some (some s) → slOwn s = true → σ[i]? = some (some (.ref a)) → (Z a ∨ a = D) → H4 a = some o → H a = some o := fun i s a o h os hs za h4 => by
    have za := za.resolve_right (own i s a h os hs)
    obtain ⟨u, hu, _⟩ := z a za
    have := e4 a u hu
    rw [h4] at this
    cases this
    exact e a o hu
  have le := eZ.le
  refine ⟨E.len, fun i s h => ?_⟩
  have r := E.at_ i s h
  cases s with
  | sh d => obtain ⟨v, a, b⟩ := r; exact ⟨v, a, Rep.le le _ _ b⟩
  | ol ds => obtain ⟨a, vs, q, za, b, c⟩ := r; exact ⟨a, vs, q, za, st i _ a _ h rfl q za b, Reps.le le _ _ c⟩
  | od ds => obtain ⟨a, vs, q, za, b, c⟩ := r; exact ⟨a, vs, q, za, st i _ a _ h rfl q za b, RepK.le le _ _ c⟩
  | ot ds => obtain ⟨a, vs, q, za, b, c⟩ := r; exact ⟨a, vs, q, za, st i _ a _ h rfl q za b, RepT.le le _ _ c⟩
  | on ds => obtain ⟨a, vs, q, za, b, c⟩ := r; exact ⟨a, vs, q, za, st i _ a _ h rfl q za b, RepN.le le _ _ c⟩
  | oo a0 c fs => obtain ⟨a, dx, vs, q, za, b, c⟩ := r; exact ⟨a, dx, vs, q, za, st i _ a _ h rfl q.1 za b, RepF.le le _ _ c⟩
theorem lc2_rd {g g1 : Gx} {ss ss1 w w1 : List Nat} {src1 : Sx} {f : Ex} {σ : L2.St} {δ : En} {Z : Addr → Prop} {J : It} {H1 : Hp} {ds ys : List D} (z : ZOk Z H1) (E : EnvR K κ H1 Z σ δ) (hlen : ds.length ≤ sizeLine) (wk : Wk κ Z J H1 ds (fun _ => True))
    (hy : cL2 g tTrue src1 w1 g1 tTrue f (δ.wipe w) ds = some ys) (hm : ys.length ≤ most) (hss : ∀ i ∈ ss, i ∈ w) (hss1 : ∀ i ∈ ss1, i ∈ w1) {D : Addr} (hD : H1 D = none) {Qd : Hp → Prop} (hq : ∀ H', Ext H1 H' → Rep κ (hide Z H') (.lst ys) (.ref D) → Qd H') :
    ∃ W : Nat → Nat → Hp → Prop, (∃ m, W 0 m (upd H1 D (.lst []))) ∧ ∀ i m H, W i m H → (J.stop i H ∧ Qd H) ∨ (J.go i H ∧ ∃ Nx : Hp → Prop, (∀ H', Nx H' → ∃ m', m' < m ∧ W (i + 1) m' H') ∧ ∀ x H', J.yld i H x H' →
      tPG K κ g ss x (L2.wipe σ w) H' fun σ2 H2 => L2.wipe σ2 w = L2.wipe σ w ∧ tPT K κ tTrue σ2 H2 fun b H3 =>
        if b = true then tI K κ true src1 σ2 H3 fun J1 H4 => ∃ W1 : Nat → Nat → Hp → Prop, (∃ m, W1 0 m H4) ∧ ∀ j k H, W1 j k H →
          (J1.stop j H ∧ Nx H) ∨ (J1.go j H ∧ ∃ Nx1 : Hp → Prop, (∀ H', Nx1 H' → ∃ k', k' < k ∧ W1 (j + 1) k' H') ∧ ∀ x H', J1.yld j H x H' → tPG K κ g1 ss1 x (L2.wipe σ2 w1) H' fun σ3 H5 => L2.wipe σ3 w1 = L2.wipe σ2 w1 ∧ tPT K κ tTrue σ3 H5 fun b H6 =>
            if b = true then tPX K κ f σ3 H6 fun y H7 => ∃ acc, H7 D = some (.lst acc) ∧ acc.length < sizeLine ∧ Nx1 (upd H7 D (.lst (acc ++ [y]))) else Nx1 H6)
        else Nx H3) := by
  have hz : ∀ a, H1 a ≠ none → (Z a ∨ a = D) → Z a := fun a h q => q.resolve_right fun e => h (by rw [e]; exact hD)
  have E1 : EnvR K κ H1 (fun a => Z a ∨ a = D) (L2.wipe σ w) (δ.wipe w) := (E.wipe w).add hD
  let Ac : List BP.D → Hp → Prop := fun rest H => Ext H1 H ∧ ∃ (vs : List V) (done : List BP.D), H D = some (.lst vs) ∧ Reps κ (hide (fun a => Z a ∨ a = D) H) done vs ∧ done ++ rest = ys
  have zIn : ∀ {H : Hp} {vs : List V}, Ext H1 H → H D = some (.lst vs) → ZOk (fun a => Z a ∨ a = D) H := fun e hd => zok_D z e hd fun _ => nofun
  refine ⟨fun i m H => m = ds.length - i ∧ i ≤ ds.length ∧ ∃ rest, cL2 g tTrue src1 w1 g1 tTrue f (δ.wipe w) (ds.drop i) = some rest ∧ Ac rest H, ⟨ds.length, by simp, Nat.zero_le _, ys, by simpa using hy, .upd hD, [], [], upd_same, rfl, rfl⟩, ?_⟩
  rintro i m H ⟨rfl, hi, rest, hc, e, vs, done, hd, hr, hs⟩
  have zz := zIn e hd
  obtain ⟨go, stop⟩ := wk _ i H hz zz fun a o _ h => e a o h
  by_cases hlt : i < ds.length
  · have hg : ds[i]? = some ds[i] := by simp [hlt]
    obtain ⟨hgo, hyld⟩ := go _ hg
    rw [List.drop_eq_getElem_cons hlt] at hc
    obtain ⟨δ', h1, h2⟩ := Option.bind_eq_some_iff.mp hc
    obtain ⟨b, h3, h4⟩ := Option.bind_eq_some_iff.mp h2
    cases h3
    rw [if_pos rfl] at h4
    obtain ⟨es, h5, h6⟩ := Option.bind_eq_some_iff.mp h4
    obtain ⟨us, h7, h8⟩ := Option.bind_eq_some_iff.mp h6
    obtain ⟨zs, h9, h10⟩ := Option.bind_eq_some_iff.mp h8
    cases h10
    refine .inr ⟨hgo, fun H' => i + 1 ≤ ds.length ∧ Ac zs H', fun H' n => ⟨ds.length - (i + 1), by omega, rfl, n.1, zs, h9, n.2⟩, fun x H' yl => ?_⟩
    obtain ⟨e2, rx⟩ := hyld x H' yl
    refine tPG_of (zz.ext e2) (E1.ext (e.trans e2)) rx h1 hss fun σ2 H2 e3 E2 w2 u2 => ⟨w2.trans (wipe_wipe σ w), δ', _, (zz.ext e2).ext e3, E2, true, rfl, fun H3 e4 => iteT ?_⟩
    have e24 := (e2.trans e3).trans e4
    refine ⟨δ', _, zz.ext e24, E2.ext e4, es, h5, fun J1 H4 e5 hlen1 wk1 => ?_⟩
    have e25 := e24.trans e5
    have E4 : EnvR K κ H4 (fun a => Z a ∨ a = D) (L2.wipe σ2 w1) (δ'.wipe w1) := ((E2.ext (e4.trans e5)).wipe w1)
    -- the inner loop
    refine ⟨fun j k H => k = es.length - j ∧ j ≤ es.length ∧ ExtZ (fun a => Z a ∨ a = D) H4 H ∧ ∃ ur, cL g1 tTrue f (δ'.wipe w1) (es.drop j) = some ur ∧ Ac (ur ++ zs) H, ⟨es.length, by simp, Nat.zero_le _, .refl _ _, us, by simpa using h7, e.trans e25, vs, done, e25 _ _ hd, Reps.ext e25 hr, hs⟩, ?_⟩
    rintro j k Hj ⟨rfl, hj, eZ, ur, hcj, ej, vj, dj, hdj, hrj, hsj⟩
    have zj := zIn ej hdj
    obtain ⟨go1, stop1⟩ := wk1 (fun a => Z a ∨ a = D) j Hj (fun a _ h => h) zj fun a o n h => eZ a o (n rfl) h
    by_cases hlt1 : j < es.length
    · have hg1 : es[j]? = some es[j] := by simp [hlt1]
      obtain ⟨hgo1, hyld1⟩ := go1 _ hg1
      rw [List.drop_eq_getElem_cons hlt1] at hcj
      obtain ⟨δ1, k1, k2⟩ := Option.bind_eq_some_iff.mp hcj
      obtain ⟨b1, k3, k4⟩ := Option.bind_eq_some_iff.mp k2
      cases k3
      rw [if_pos rfl] at k4
      obtain ⟨y, k5, k6⟩ := Option.bind_eq_some_iff.mp k4
      obtain ⟨ur', k7, k8⟩ := Option.bind_eq_some_iff.mp k6
      cases k8
      have EZ : EnvR K κ Hj (fun a => Z a ∨ a = D) (L2.wipe σ2 w1) (δ'.wipe w1) := by
        refine E4.later z (fun i s a h os hs => ?_) (e.trans e25) ej eZ
        have un := ((Unc.wipe σ δ w).trans u2).trans (Unc.wipe σ2 δ' w1)
        obtain ⟨h1, h2⟩ := un i s h os
        have := (SlR.owned (E.at_ i s h1) os)
        obtain ⟨b, hb, zb, nb⟩ := this
        rw [← h2, hs] at hb
        cases hb
        exact fun q => nb (by rw [q]; exact hD)
      refine .inr ⟨hgo1, fun H' => j + 1 ≤ es.length ∧ ExtZ (fun a => Z a ∨ a = D) H4 H' ∧ Ac (ur' ++ zs) H', fun H' n => ⟨es.length - (j + 1), by omega, rfl, n.1, n.2.1, ur', k7, n.2.2⟩, fun x1 H5 yl1 => ?_⟩
      obtain ⟨f2, rx1⟩ := hyld1 x1 H5 yl1
      refine tPG_of (zj.ext f2) (EZ.ext f2) rx1 k1 hss1 fun σ3 H6 f3 E3 w3 u3 => ⟨w3.trans (wipe_wipe σ2 w1), δ1, _, (zj.ext f2).ext f3, E3, true, rfl, fun H7 f4 => iteT ?_⟩
      refine ⟨δ1, _, ((zj.ext f2).ext f3).ext f4, E3.ext f4, y, k5, fun v H8 f5 r => ?_⟩
      have f25 := ((f2.trans f3).trans f4).trans f5
      have hvl : vj.length < ys.length := by rw [hrj.length, ← hsj]; simp
      refine ⟨vj, f25 _ _ hdj, Nat.lt_of_lt_of_le hvl (most_ok hm), hlt1, fun a o n h => ?_, ext_write (ej.trans f25) hD, vj ++ [v], dj ++ [y], upd_same, Reps.le le_write _ _ ((Reps.ext f25 hrj).snoc r), by rw [← hsj]; simp⟩
      rw [upd_ne (fun q => n (.inr q))]
      exact f25 a o (eZ a o n h)
    · have hl : j = es.length := by omega
      subst hl
      rw [List.drop_length] at hcj
      cases hcj
      exact .inl ⟨stop1 rfl, hlt, ej, vj, dj, hdj, hrj, hsj⟩
  · have hl : i = ds.length := by omega
    subst hl
    rw [List.drop_length] at hc
    cases hc
    rw [List.append_nil] at hs
    subst hs
    exact .inl ⟨stop rfl, hq H e ⟨D, vs, rfl, hide_some.mpr ⟨z.fresh hD, hd⟩, Reps.le (le_sub fun a h => .inl h) _ _ hr⟩⟩
end
section
variable {κ : Kap} {X : Cx} {a b c e : Expr} {es : List Expr} {f fa fb fc fk fv : Ex} {pos p p2 p3 apos spos py : Pos} {k : Nat}
theorem lc2_of {K : PySem.W.Frag} {cc : Bool} {src src1 : Sx} {g g1 : Gx} {ss ss1 w w1 : List Nat} (hss : ∀ i ∈ ss, i ∈ w) (hss1 : ∀ i ∈ ss1, i ∈ w1) {σ : L2.St} {H : Hp} {Q : VK} (h : tPX K κ (xLc2 src w g src1 w1 g1 f) σ H Q) : tLc2 (tI K κ cc src) (tPG K κ g ss) (tPT K κ tTrue) (tI K κ true src1) (tPG K κ g1 ss1) (tPT K κ tTrue) (tPX K κ f) w w1 σ H Q := by
  obtain ⟨δ, Z, z, E, d, hd, q⟩ := h
  obtain ⟨ds, h1, h2⟩ := Option.bind_eq_some_iff.mp hd
  obtain ⟨ys, h3, h4⟩ := Option.bind_eq_some_iff.mp h2
  split at h4
  · next hm =>
    cases h4
    exact ⟨δ, Z, z, E, ds, h1, fun J H1 e1 hlen wk D hD => lc2_rd (z.ext e1) (E.ext e1) hlen (wk.weak fun _ _ => trivial) h3 hm hss hss1 hD fun H' e2 r => q _ H' (e1.trans e2) r⟩
  · cases h4
theorem X_lc2 {elt tg iter tg1 iter1 : Expr} {scope : Scope} {own : List (Str × Nat)} {cc : Bool} {src src1 : Sx} {g g1 : Gx} {ss ss1 w1 : List Nat} (kn : Kn X k) (hi : PIx κ X tg iter cc src) (ok : BlkOk X.N X.env.scope scope own)
    (hg : ∀ (s : Shared) (H : Hp) (C : Addr) (cl : List (Str × Addr)) (fp : List Addr), PGx κ (X.blk s H scope (compEnvC scope cl C X.env) fp) tg g ss)
    (hi1 : ∀ (s : Shared) (H : Hp) (C : Addr) (cl : List (Str × Addr)) (fp : List Addr), PIx κ (X.blk s H scope (compEnvC scope cl C X.env) fp) tg1 iter1 true src1)
    (hg1 : ∀ (s : Shared) (H : Hp) (C : Addr) (cl : List (Str × Addr)) (fp : List Addr), PGx κ (X.blk s H scope (compEnvC scope cl C X.env) fp) tg1 g1 ss1)
    (he : ∀ (s : Shared) (H : Hp) (C : Addr) (cl : List (Str × Addr)) (fp : List Addr), PX κ (X.blk s H scope (compEnvC scope cl C X.env) fp) elt f) (hss : ∀ i ∈ ss, i ∈ own.map (·.2) := by decide) (hss1 : ∀ i ∈ ss1, i ∈ w1 := by decide) (hw : ∀ i ∈ w1, i ∈ own.map (·.2) := by decide) (hs : ∀ x, foldedSetIterable iter X.env x = pure x := by intro _; rfl) (hs1 : ∀ env x, foldedSetIterable iter1 env x = pure x := by intro _ _; rfl) :
    PX κ X (.ListComp elt [⟨tg, iter, [], 0⟩, ⟨tg1, iter1, [], 0⟩] scope pos) (xLc2 src (own.map (·.2)) g src1 w1 g1 f) := pe_mono (pe_lc2 kn.calm kn.nd hi ok hw hg (fun _ _ _ _ _ => Ts_nil) hi1 hg1 (fun _ _ _ _ _ => Ts_nil) he hs hs1) fun σ H Q h => lc2_of hss hss1 h
theorem S_setLc2 (i : Nat) {y : Str} {elt tg iter tg1 iter1 : Expr} {scope : Scope} {own : List (Str × Nat)} {cc : Bool} {src src1 : Sx} {g g1 : Gx} {ss ss1 w1 : List Nat} (kn : Kn X k) (hi : PIx κ X tg iter cc src) (ok : BlkOk X.N X.env.scope scope own)
    (hg : ∀ (s : Shared) (H : Hp) (C : Addr) (cl : List (Str × Addr)) (fp : List Addr), PGx κ (X.blk s H scope (compEnvC scope cl C X.env) fp) tg g ss)
    (hi1 : ∀ (s : Shared) (H : Hp) (C : Addr) (cl : List (Str × Addr)) (fp : List Addr), PIx κ (X.blk s H scope (compEnvC scope cl C X.env) fp) tg1 iter1 true src1)
    (hg1 : ∀ (s : Shared) (H : Hp) (C : Addr) (cl : List (Str × Addr)) (fp : List Addr), PGx κ (X.blk s H scope (compEnvC scope cl C X.env) fp) tg1 g1 ss1)
    (he : ∀ (s : Shared) (H : Hp) (C : Addr) (cl : List (Str × Addr)) (fp : List Addr), PX κ (X.blk s H scope (compEnvC scope cl C X.env) fp) elt f) (hss : ∀ i ∈ ss, i ∈ own.map (·.2) := by decide) (hss1 : ∀ i ∈ ss1, i ∈ w1 := by decide) (hw : ∀ i ∈ w1, i ∈ own.map (·.2) := by decide) (hs : ∀ x, foldedSetIterable iter X.env x = pure x := by intro _; rfl) (hs1 : ∀ env x, foldedSetIterable iter1 env x = pure x := by intro _ _; rfl)
    (hy : X.N[i]? = some y := by rfl) (hyl : X.env.scope.names.lookup y = some .local := by rfl) (hsw : swapsWith (.ListComp elt [⟨tg, iter, [], 0⟩, ⟨tg1, iter1, [], 0⟩] scope pos) (some (.Name y py)) spos.line X.env = pure true := by rfl) :
    PSx κ X (.Assign [.Name y py] (.ListComp elt [⟨tg, iter, [], 0⟩, ⟨tg1, iter1, [], 0⟩] scope pos) spos) (sSet i (nSh (xLc2 src (own.map (·.2)) g src1 w1 g1 f))) :=
  ps_mono (ps_setLc2 kn.calm kn.nd hy hyl hsw hi ok hw hg (fun _ _ _ _ _ => Ts_nil) hi1 hg1 (fun _ _ _ _ _ => Ts_nil) he hs hs1) fun D σ H h => lc2_of hss hss1 (asg_px h)
end
/-- b: by ints and texts, else by tuples of these -/
def DR (κ : Kap) (b : Bool) (H : Hp) (kvs : List (D × D)) : HO → Prop
  | .dK l => b = true ∧ RepK κ H kvs l
  | .dT l => b = false ∧ RepT κ H kvs l
  | _ => False
def kOk (b : Bool) (d : D) : Bool := if b = true then keyOk d else keyTOk d
def dOf (b : Bool) (kvs : List (D × D)) : D := if b = true then .dct kvs else .dtt kvs
def e0Of (b : Bool) : HO := if b = true then .dK [] else .dT []
def cD2 (b : Bool) (g : Gx) (src : Sx) (w : List Nat) (g2 : Gx) (fk fv : Ex) (δ : En) : List D → List (D × D) → Option (List (D × D))
  | [], m => some m
  | d :: r, m => (g d δ).bind fun δ' => (src δ').bind fun es => (cDk b g2 fk fv (δ'.wipe w) es m).bind fun m' => cD2 b g src w g2 fk fv δ r m'
where cDk (b : Bool) (g : Gx) (fk fv : Ex) (δ : En) : List D → List (D × D) → Option (List (D × D))
  | [], m => some m
  | d :: r, m => (g d δ).bind fun δ' => (fk δ').bind fun k => (fv δ').bind fun v => if kOk b k = true then cDk b g fk fv δ r (dPut k v m) else none
def xDc2 (b : Bool) (src : Sx) (w : List Nat) (g : Gx) (src1 : Sx) (w1 : List Nat) (g1 : Gx) (fk fv : Ex) : Ex := fun δ => (src δ).bind fun ds => (cD2 b g src1 w1 g1 fk fv (δ.wipe w) ds []).bind fun m => if m.length ≤ most then some (dOf b m) else none
theorem dPut_len (k v : D) (m : List (D × D)) : m.length ≤ (dPut k v m).length := by
  unfold dPut
  split <;> simp
theorem cDk_len {b : Bool} {g : Gx} {fk fv : Ex} {δ : En} : ∀ {ds : List D} {m m' : List (D × D)}, cD2.cDk b g fk fv δ ds m = some m' → m.length ≤ m'.length
  | [], m, m', h => by cases h; exact Nat.le_refl _
  | d :: r, m, m', h => by
    obtain ⟨δ', h1, h2⟩ := Option.bind_eq_some_iff.mp h
    obtain ⟨k, h3, h4⟩ := Option.bind_eq_some_iff.mp h2
    obtain ⟨v, h5, h6⟩ := Option.bind_eq_some_iff.mp h4
    split at h6
    · exact Nat.le_trans (dPut_len k v m) (cDk_len h6)
    · cases h6
theorem cD2_len {b : Bool} {g g2 : Gx} {src : Sx} {w : List Nat} {fk fv : Ex} {δ : En} : ∀ {ds : List D} {m m' : List (D × D)}, cD2 b g src w g2 fk fv δ ds m = some m' → m.length ≤ m'.length
  | [], m, m', h => by cases h; exact Nat.le_refl _
  | d :: r, m, m', h => by
    obtain ⟨δ', h1, h2⟩ := Option.bind_eq_some_iff.mp h
    obtain ⟨es, h3, h4⟩ := Option.bind_eq_some_iff.mp h2
    obtain ⟨m1, h5, h6⟩ := Option.bind_eq_some_iff.mp h4
    exact Nat.le_trans (cDk_len h5) (cD2_len h6)
section
variable {K : PySem.W.Frag} {κ : Kap}
theorem DR.le {b : Bool} {H H' : Hp} {kvs : List (D × D)} {o : HO} (e : Le H H') (h : DR κ b H kvs o) : DR κ b H' kvs o := by
  cases o with
  | dK l => exact ⟨h.1, RepK.le e _ _ h.2⟩
  | dT l => exact ⟨h.1, RepT.le e _ _ h.2⟩
  | _ => exact h.elim
theorem DR.nt {b : Bool} {H : Hp} {kvs : List (D × D)} {o : HO} (h : DR κ b H kvs o) : ∀ xs, o ≠ .tup xs := fun xs e => by subst e; exact h.elim
theorem DR.rep {b : Bool} {H : Hp} {kvs : List (D × D)} {o : HO} {p : Addr} (h : DR κ b H kvs o) (hp : H p = some o) : Rep κ H (dOf b kvs) (.ref p) := by
  cases o with
  | dK l => obtain ⟨rfl, r⟩ := h; exact ⟨p, l, rfl, .inl hp, r⟩
  | dT l => obtain ⟨rfl, r⟩ := h; exact ⟨p, l, rfl, .inl hp, r⟩
  | _ => exact h.elim
/-- one key more -/
theorem DR.put {b : Bool} {H : Hp} {Z : Addr → Prop} {kvs : List (D × D)} {o : HO} {D : Addr} {kd vd : BP.D} {y v : V} (h : DR κ b (hide Z H) kvs o) (hD : H D = some o) (hl : kvs.length ≤ most) (hk : kOk b kd = true) (ry : Rep κ (hide Z H) kd y) (rv : Rep κ (hide Z H) vd v) :
    ∃ o', DPut H D y v (upd H D o') ∧ DR κ b (hide Z H) (dPut kd vd kvs) o' := by
  have few : most < sizeLine := by rw [sizeLine_eq]; decide
  cases o with
  | dK l =>
    obtain ⟨rfl, r⟩ := h
    have e4 : kd = keyD (keyOf kd) := keyOf_ok hk
    have e3 : y = kV (keyOf kd) := rep_key (by rw [← e4]; exact ry)
    subst e3
    refine ⟨.dK (putK l (keyOf kd) v), .k hD (by rw [repK_len r]; omega), rfl, ?_⟩
    have := repK_put (k := keyOf kd) rv r
    rw [← e4] at this
    exact this
  | dT l =>
    obtain ⟨rfl, r⟩ := h
    cases kd with
    | tup ks =>
      obtain ⟨p, us, rfl, hp, rs⟩ := ry
      obtain ⟨e3, e4⟩ := reps_keys (show ks.all keyOk = true from hk) rs
      subst e3
      refine ⟨.dT (putK l (ks.map keyOf) v), .t hD (hide_some.mp hp).2 (by rw [repT_len r]; omega), rfl, ?_⟩
      have := repT_put (k := ks.map keyOf) rv r
      rw [← e4] at this
      exact this
    | _ => exact absurd hk (by simp [kOk, keyTOk])
  | _ => exact h.elim
theorem e0_DR (b : Bool) {H : Hp} : DR κ b H [] (e0Of b) := by
  cases b
  · exact ⟨rfl, rfl⟩
  · exact ⟨rfl, rfl⟩
theorem dc2_rd {b : Bool} {g g1 : Gx} {ss ss1 w w1 : List Nat} {src1 : Sx} {fk fv : Ex} {σ : L2.St} {δ : En} {Z : Addr → Prop} {J : It} {H1 : Hp} {ds : List D} {ys : List (D × D)} (z : ZOk Z H1) (E : EnvR K κ H1 Z σ δ) (hlen : ds.length ≤ sizeLine) (wk : Wk κ Z J H1 ds (fun _ => True))
    (hy : cD2 b g src1 w1 g1 fk fv (δ.wipe w) ds [] = some ys) (hm : ys.length ≤ most) (hss : ∀ i ∈ ss, i ∈ w) (hss1 : ∀ i ∈ ss1, i ∈ w1) {D : Addr} (hD : H1 D = none) {Qd : Hp → Prop} (hq : ∀ H', Ext H1 H' → Rep κ (hide Z H') (dOf b ys) (.ref D) → Qd H') :
    ∃ W : Nat → Nat → Hp → Prop, (∃ m, W 0 m (upd H1 D (e0Of b))) ∧ ∀ i m H, W i m H → (J.stop i H ∧ Qd H) ∨ (J.go i H ∧ ∃ Nx : Hp → Prop, (∀ H', Nx H' → ∃ m', m' < m ∧ W (i + 1) m' H') ∧ ∀ x H', J.yld i H x H' →
      tPG K κ g ss x (L2.wipe σ w) H' fun σ2 H2 => L2.wipe σ2 w = L2.wipe σ w ∧ tI K κ true src1 σ2 H2 fun J1 H4 => ∃ W1 : Nat → Nat → Hp → Prop, (∃ m, W1 0 m H4) ∧ ∀ j k H, W1 j k H →
          (J1.stop j H ∧ Nx H) ∨ (J1.go j H ∧ ∃ Nx1 : Hp → Prop, (∀ H', Nx1 H' → ∃ k', k' < k ∧ W1 (j + 1) k' H') ∧ ∀ x H', J1.yld j H x H' → tPG K κ g1 ss1 x (L2.wipe σ2 w1) H' fun σ3 H5 => L2.wipe σ3 w1 = L2.wipe σ2 w1 ∧
            tPX K κ fk σ3 H5 fun y H6 => tPX K κ fv σ3 H6 fun v H7 => ∃ H8, DPut H7 D y v H8 ∧ Nx1 H8)) := by
  have hz : ∀ a, H1 a ≠ none → (Z a ∨ a = D) → Z a := fun a h q => q.resolve_right fun e => h (by rw [e]; exact hD)
  have E1 : EnvR K κ H1 (fun a => Z a ∨ a = D) (L2.wipe σ w) (δ.wipe w) := (E.wipe w).add hD
  let Ac : List (BP.D × BP.D) → Hp → Prop := fun m H => Ext H1 H ∧ ∃ o, H D = some o ∧ DR κ b (hide (fun a => Z a ∨ a = D) H) m o
  refine ⟨fun i n H => n = ds.length - i ∧ i ≤ ds.length ∧ ∃ m, cD2 b g src1 w1 g1 fk fv (δ.wipe w) (ds.drop i) m = some ys ∧ Ac m H, ⟨ds.length, by simp, Nat.zero_le _, [], by simpa using hy, .upd hD, _, upd_same, e0_DR b⟩, ?_⟩
  rintro i n H ⟨rfl, hi, m, hc, e, o, hd, hr⟩
  have zz := zok_D z e hd hr.nt
  obtain ⟨go, stop⟩ := wk _ i H hz zz fun a o _ h => e a o h
  by_cases hlt : i < ds.length
  · have hg : ds[i]? = some ds[i] := by simp [hlt]
    obtain ⟨hgo, hyld⟩ := go _ hg
    rw [List.drop_eq_getElem_cons hlt] at hc
    obtain ⟨δ', h1, h2⟩ := Option.bind_eq_some_iff.mp hc
    obtain ⟨es, h5, h6⟩ := Option.bind_eq_some_iff.mp h2
    obtain ⟨m1, h7, h9⟩ := Option.bind_eq_some_iff.mp h6
    refine .inr ⟨hgo, fun H' => i + 1 ≤ ds.length ∧ Ac m1 H', fun H' n => ⟨ds.length - (i + 1), by omega, rfl, n.1, m1, h9, n.2⟩, fun x H' yl => ?_⟩
    obtain ⟨e2, rx⟩ := hyld x H' yl
    refine tPG_of (zz.ext e2) (E1.ext (e.trans e2)) rx h1 hss fun σ2 H2 e3 E2 w2 u2 => ⟨w2.trans (wipe_wipe σ w), ?_⟩
    have e24 := e2.trans e3
    refine ⟨δ', _, zz.ext e24, E2, es, h5, fun J1 H4 e5 hlen1 wk1 => ?_⟩
    have e25 := e24.trans e5
    have E4 : EnvR K κ H4 (fun a => Z a ∨ a = D) (L2.wipe σ2 w1) (δ'.wipe w1) := (E2.ext e5).wipe w1
    -- the inner loop
    refine ⟨fun j k H => k = es.length - j ∧ j ≤ es.length ∧ ExtZ (fun a => Z a ∨ a = D) H4 H ∧ ∃ mj, cD2.cDk b g1 fk fv (δ'.wipe w1) (es.drop j) mj = some m1 ∧ Ac mj H, ⟨es.length, by simp, Nat.zero_le _, .refl _ _, m, by simpa using h7, e.trans e25, o, e25 _ _ hd, hr.le (Ext.hide e25)⟩, ?_⟩
    rintro j k Hj ⟨rfl, hj, eZ, mj, hcj, ej, oj, hdj, hrj⟩
    have zj := zok_D z ej hdj hrj.nt
    obtain ⟨go1, stop1⟩ := wk1 (fun a => Z a ∨ a = D) j Hj (fun a _ h => h) zj fun a o n h => eZ a o (n rfl) h
    by_cases hlt1 : j < es.length
    · have hg1 : es[j]? = some es[j] := by simp [hlt1]
      obtain ⟨hgo1, hyld1⟩ := go1 _ hg1
      have hlm : mj.length ≤ most := Nat.le_trans (cDk_len hcj) (Nat.le_trans (cD2_len h9) hm)
      rw [List.drop_eq_getElem_cons hlt1] at hcj
      obtain ⟨δ1, k1, k2⟩ := Option.bind_eq_some_iff.mp hcj
      obtain ⟨kd, k3, k4⟩ := Option.bind_eq_some_iff.mp k2
      obtain ⟨vd, k5, k6⟩ := Option.bind_eq_some_iff.mp k4
      split at k6
      · next hk =>
        have EZ : EnvR K κ Hj (fun a => Z a ∨ a = D) (L2.wipe σ2 w1) (δ'.wipe w1) := by
          refine E4.later z (fun i s a h os hs => ?_) (e.trans e25) ej eZ
          have un := ((Unc.wipe σ δ w).trans u2).trans (Unc.wipe σ2 δ' w1)
          obtain ⟨h1, h2⟩ := un i s h os
          obtain ⟨b, hb, zb, nb⟩ := SlR.owned (E.at_ i s h1) os
          rw [← h2, hs] at hb
          cases hb
          exact fun q => nb (by rw [q]; exact hD)
        refine .inr ⟨hgo1, fun H' => j + 1 ≤ es.length ∧ ExtZ (fun a => Z a ∨ a = D) H4 H' ∧ Ac (dPut kd vd mj) H', fun H' n => ⟨es.length - (j + 1), by omega, rfl, n.1, n.2.1, _, k6, n.2.2⟩, fun x1 H5 yl1 => ?_⟩
        obtain ⟨f2, rx1⟩ := hyld1 x1 H5 yl1
        refine tPG_of (zj.ext f2) (EZ.ext f2) rx1 k1 hss1 fun σ3 H6 f3 E3 w3 u3 => ⟨w3.trans (wipe_wipe σ2 w1), δ1, _, (zj.ext f2).ext f3, E3, kd, k3, fun y H7 f4 ry => ⟨δ1, _, ((zj.ext f2).ext f3).ext f4, E3.ext f4, vd, k5, fun v H8 f5 rv => ?_⟩⟩
        have f25 := ((f2.trans f3).trans f4).trans f5
        obtain ⟨o', put, dr⟩ := DR.put (hrj.le (Ext.hide f25)) (f25 _ _ hdj) hlm hk (Rep.ext f5 ry) rv
        refine ⟨_, put, hlt1, fun a o n h => ?_, ext_write (ej.trans f25) hD, o', upd_same, dr.le le_write⟩
        rw [upd_ne (fun q => n (.inr q))]
        exact f25 a o (eZ a o n h)
      · cases k6
    · have hl : j = es.length := by omega
      subst hl
      rw [List.drop_length] at hcj
      cases hcj
      exact .inl ⟨stop1 rfl, hlt, ej, oj, hdj, hrj⟩
  · have hl : i = ds.length := by omega
    subst hl
    rw [List.drop_length] at hc
    cases hc
    exact .inl ⟨stop rfl, hq H e (DR.rep (hr.le (le_sub fun a h => .inl h)) (hide_some.mpr ⟨z.fresh hD, hd⟩))⟩
end
section
variable {κ : Kap} {X : Cx} {a b c e : Expr} {es : List Expr} {f fa fb fc fk fv : Ex} {pos p p2 p3 apos spos py : Pos} {k : Nat}
theorem e0Of_or (b : Bool) : e0Of b = .dK [] ∨ e0Of b = .dT [] := by cases b <;> simp [e0Of]
theorem dc2_of {K : PySem.W.Frag} {bb cc : Bool} {src src1 : Sx} {g g1 : Gx} {ss ss1 w w1 : List Nat} (hss : ∀ i ∈ ss, i ∈ w) (hss1 : ∀ i ∈ ss1, i ∈ w1) {σ : L2.St} {H : Hp} {Q : VK} (h : tPX K κ (xDc2 bb src w g src1 w1 g1 fk fv) σ H Q) : tDc2 (e0Of bb) (tI K κ cc src) (tPG K κ g ss) (tI K κ true src1) (tPG K κ g1 ss1) (tPX K κ fk) (tPX K κ fv) w w1 σ H Q := by
  obtain ⟨δ, Z, z, E, d, hd, q⟩ := h
  obtain ⟨ds, h1, h2⟩ := Option.bind_eq_some_iff.mp hd
  obtain ⟨ys, h3, h4⟩ := Option.bind_eq_some_iff.mp h2
  split at h4
  · next hm =>
    cases h4
    exact ⟨δ, Z, z, E, ds, h1, fun J H1 e1 hlen wk D hD => dc2_rd (z.ext e1) (E.ext e1) hlen (wk.weak fun _ _ => trivial) h3 hm hss hss1 hD fun H' e2 r => q _ H' (e1.trans e2) r⟩
  · cases h4
theorem dcl2_of {K : PySem.W.Frag} {bb : Bool} {P : L2.St → Hp → V → Prop} {h : List (D × D) → List D} {src1 : Sx} {f0 : Ex} {g g1 : Gx} {ss ss1 w w1 : List Nat} (hss : ∀ i ∈ ss, i ∈ w) (hss1 : ∀ i ∈ ss1, i ∈ w1) {σ : L2.St} {H : Hp} {Q : VK} (hh : tPXl K κ P f0 (xDc2 bb (sDct f0 h) w g src1 w1 g1 fk fv) σ H Q) : tDc2 (e0Of bb) (tIl K κ P f0 h) (tPG K κ g ss) (tI K κ true src1) (tPG K κ g1 ss1) (tPX K κ fk) (tPX K κ fv) w w1 σ H Q := by
  obtain ⟨δ, Z, z, E, kvs, p, o, l, h1, h2, h3, h4, d, hd, q⟩ := hh
  obtain ⟨ds, h5, h6⟩ := Option.bind_eq_some_iff.mp hd
  obtain ⟨ys, h7, h8⟩ := Option.bind_eq_some_iff.mp h6
  split at h8
  · next hm =>
    cases h8
    obtain ⟨kvs', h9, h10⟩ := sDct_some h5
    rw [h1] at h9
    cases h9
    subst h10
    exact ⟨δ, Z, z, E, kvs, p, o, l, h1, h2, h3, h4, fun J hlen wk D hD => dc2_rd z E hlen (wk.weak fun _ _ => trivial) h7 hm hss hss1 hD fun H' e2 r => q _ H' e2 r⟩
  · cases h8
/-- {k: v for tg in iter for tg1 in iter1} -/
theorem X_dc2 (bb : Bool) {kx vx tg iter tg1 iter1 : Expr} {scope : Scope} {own : List (Str × Nat)} {cc : Bool} {src src1 : Sx} {g g1 : Gx} {ss ss1 w1 : List Nat} (kn : Kn X k) (hi : PIx κ X tg iter cc src) (ok : BlkOk X.N X.env.scope scope own)
    (hg : ∀ (s : Shared) (H : Hp) (C : Addr) (cl : List (Str × Addr)) (fp : List Addr), PGx κ (X.blk s H scope (compEnvC scope cl C X.env) fp) tg g ss)
    (hi1 : ∀ (s : Shared) (H : Hp) (C : Addr) (cl : List (Str × Addr)) (fp : List Addr), PIx κ (X.blk s H scope (compEnvC scope cl C X.env) fp) tg1 iter1 true src1)
    (hg1 : ∀ (s : Shared) (H : Hp) (C : Addr) (cl : List (Str × Addr)) (fp : List Addr), PGx κ (X.blk s H scope (compEnvC scope cl C X.env) fp) tg1 g1 ss1)
    (hk : ∀ (s : Shared) (H : Hp) (C : Addr) (cl : List (Str × Addr)) (fp : List Addr), PX κ (X.blk s H scope (compEnvC scope cl C X.env) fp) kx fk) (he : ∀ (s : Shared) (H : Hp) (C : Addr) (cl : List (Str × Addr)) (fp : List Addr), PX κ (X.blk s H scope (compEnvC scope cl C X.env) fp) vx fv)
    (hss : ∀ i ∈ ss, i ∈ own.map (·.2) := by decide) (hss1 : ∀ i ∈ ss1, i ∈ w1 := by decide) (hw : ∀ i ∈ w1, i ∈ own.map (·.2) := by decide) (hs : ∀ x, foldedSetIterable iter X.env x = pure x := by intro _; rfl) (hs1 : ∀ env x, foldedSetIterable iter1 env x = pure x := by intro _ _; rfl) :
    PX κ X (dc2 kx vx tg iter tg1 iter1 scope pos) (xDc2 bb src (own.map (·.2)) g src1 w1 g1 fk fv) := pe_mono (pe_dc2 (e0Of_or bb) (Nat.lt_of_succ_lt (hu_of kn.room)) kn.calm kn.nd hi ok hw hg hi1 hg1 hk he hs hs1) fun σ H Q h => dc2_of hss hss1 h
theorem xDc2_dct {bb : Bool} {h : List (D × D) → List D} {src1 : Sx} {g g1 : Gx} {w w1 : List Nat} {f0 : Ex} : ∀ δ d, xDc2 bb (sDct f0 h) w g src1 w1 g1 fk fv δ = some d → ∃ kvs, f0 δ = some (.dct kvs) := fun δ d hd => by
  obtain ⟨ds, h5, h6⟩ := Option.bind_eq_some_iff.mp hd
  obtain ⟨kvs', h9, h10⟩ := sDct_some h5
  exact ⟨kvs', h9⟩
/-- .. the first source a dict -/
theorem X_dc2D (bb : Bool) {kx vx tg iter tg1 iter1 e0 : Expr} {scope : Scope} {own : List (Str × Nat)} {P : L2.St → Hp → V → Prop} {h : List (D × D) → List D} {src1 : Sx} {f0 : Ex} {g g1 : Gx} {ss ss1 w1 : List Nat} (kn : Kn X k) (pk : PEk κ X e0 f0 P) (hi : PI X tg iter (tIl X.K κ P f0 h)) (ok : BlkOk X.N X.env.scope scope own)
    (hg : ∀ (s : Shared) (H : Hp) (C : Addr) (cl : List (Str × Addr)) (fp : List Addr), PGx κ (X.blk s H scope (compEnvC scope cl C X.env) fp) tg g ss)
    (hi1 : ∀ (s : Shared) (H : Hp) (C : Addr) (cl : List (Str × Addr)) (fp : List Addr), PIx κ (X.blk s H scope (compEnvC scope cl C X.env) fp) tg1 iter1 true src1)
    (hg1 : ∀ (s : Shared) (H : Hp) (C : Addr) (cl : List (Str × Addr)) (fp : List Addr), PGx κ (X.blk s H scope (compEnvC scope cl C X.env) fp) tg1 g1 ss1)
    (hk : ∀ (s : Shared) (H : Hp) (C : Addr) (cl : List (Str × Addr)) (fp : List Addr), PX κ (X.blk s H scope (compEnvC scope cl C X.env) fp) kx fk) (he : ∀ (s : Shared) (H : Hp) (C : Addr) (cl : List (Str × Addr)) (fp : List Addr), PX κ (X.blk s H scope (compEnvC scope cl C X.env) fp) vx fv)
    (hss : ∀ i ∈ ss, i ∈ own.map (·.2) := by decide) (hss1 : ∀ i ∈ ss1, i ∈ w1 := by decide) (hw : ∀ i ∈ w1, i ∈ own.map (·.2) := by decide) (hs : ∀ x, foldedSetIterable iter X.env x = pure x := by intro _; rfl) (hs1 : ∀ env x, foldedSetIterable iter1 env x = pure x := by intro _ _; rfl) :
    PX κ X (dc2 kx vx tg iter tg1 iter1 scope pos) (xDc2 bb (sDct f0 h) (own.map (·.2)) g src1 w1 g1 fk fv) := X_locked pk (pe_mono (pe_dc2 (e0Of_or bb) (Nat.lt_of_succ_lt (hu_of kn.room)) kn.calm kn.nd hi ok hw hg hi1 hg1 hk he hs hs1) fun σ H Q h => dcl2_of hss hss1 h) xDc2_dct
end
end BP
namespace BP
open PySem PySem.Spec L2 PpSet
section
variable {X : Cx}
abbrev sc1 (elt tg iter : Expr) (scope : Scope) (pos : Pos) : Expr := .SetComp elt [⟨tg, iter, [], 0⟩] scope pos
def tScK (P : Program) (wd : World) (wi : TI) (g : TG) (te : TE) (vs : List Nat) : TE := fun σ H Q => wi σ H fun J H1 => ∀ D, H1 D = none → ∃ W : Nat → Nat → Hp → Prop, (∃ m, W 0 m (upd H1 D (SetK P wd D (fun _ => false) 0))) ∧ ∀ i m H, W i m H →
  (J.stop i H ∧ Q (.ref D) H) ∨ (J.go i H ∧ ∃ Nx : Hp → Prop, (∀ H', Nx H' → ∃ m', m' < m ∧ W (i + 1) m' H') ∧ ∀ x H', J.yld i H x H' → g x (L2.wipe σ vs) H' fun σ2 H2 => L2.wipe σ2 vs = L2.wipe σ vs ∧
    te σ2 H2 fun y H3 => ∃ (k : Key) (S : Key → Bool) (n : Nat), y = kV k ∧ H3 D = some (SetK P wd D S n) ∧ n + 1 < scanBound ∧ Nx (upd H3 D (SetK P wd D (fun j => S j || decide (j = k)) (if S k = true then n else n + 1))))
/-- the empty set that is laid -/
theorem new_set {pins : List (Addr × Obj)} {σ : St} {H : Hp} {s : Shared} {D : Addr} (I : Inv X pins σ H s) (hD : s.heap.objs.size = D) : Inv X pins σ (upd H D (SetK X.prog X.w D (fun _ => false) 0)) { s with heap := s.heap.push { cls := .type "set", dict := none, data := .set #[] 0 (.fresh 0 0 (!X.w.params.followText "set-order")) } } := by
  subst hD
  refine I.laid (t' := s.toks) (fun b u e => Heap.get?_push_of_some _ e) (Nat.le_refl _) (setK_new ?_)
  exact ⟨_, #[], 0, _, Heap.get?_push_size _ rfl, ⟨rfl, rfl, rfl⟩, rfl, (fun e he => by simp at he), (fun k => by simp), (by decide), (by rfl), rfl⟩
theorem pe_scK {elt tg iter : Expr} {scope : Scope} {own : List (PySem.Str × Nat)} {pos : Pos} {wi : TI} {g : TG} {te : TE} (hc : X.calm = true) (hN : X.N.Nodup) (hi : PI X tg iter wi) (ok : BlkOk X.N X.env.scope scope own)
    (hg : ∀ (s : Shared) (H : Hp) (C : Addr) (cl : List (PySem.Str × Addr)) (fp : List Addr), PG (X.blk s H scope (compEnvC scope cl C X.env) fp) tg g)
    (he : ∀ (s : Shared) (H : Hp) (C : Addr) (cl : List (PySem.Str × Addr)) (fp : List Addr), PE (X.blk s H scope (compEnvC scope cl C X.env) fp) elt te)
    (hs : ∀ x, foldedSetIterable iter X.env x = pure x := by intro _; rfl) : PE X (sc1 elt tg iter scope pos) (tScK X.prog X.w wi g te (own.map (·.2))) := by
  refine ⟨fun pins s σ H Q I h => ?_⟩
  rw [eval_SetComp]
  have hfree : ∀ y ∈ scope.names, y.2 = .free → ∃ c, X.env.cells.lookup y.1 = some c := fun y hy e => (ok.free y hy e).elim (fun k => I.ok.has _ (.inl k)) fun k => I.ok.has _ (.inr k)
  refine wpAny_comprehension_free (use := none) rfl hs (closure_ok hfree) ok.kind (fun y hy e => by rw [ok.uniq y hy, e]) (thn (hi.run pins s σ H _ I h) fun xv s1 hx1 => thn hx1 fun itv s2 h2 => ?_)
  obtain ⟨it, fp, tn, J, H2, rfl, I2, T, st2, f2, q⟩ := h2
  refine newSet_ok (newEnv_comp ?_)
  obtain ⟨D, hD⟩ : ∃ D, s2.heap.objs.size = D := ⟨_, rfl⟩
  rw [hD]
  obtain ⟨W, ⟨m0, w0⟩, turn⟩ := q D (I2.hok.fresh (Nat.le_of_eq hD))
  have I3 := new_set I2 hD
  have lt : ∀ b ∈ fp, b < D := fun b hb => by
    obtain ⟨o, e, _⟩ := T.obj _ _ st2 b hb
    rw [← hD]; exact Heap.lt_size e
  have f3 : ∀ b ∈ fp, FpOk X pins (upd H2 D (SetK X.prog X.w D (fun _ => false) 0)) b := fun b hb => ⟨by rw [upd_ne (Nat.ne_of_lt (lt b hb))]; exact (f2 b hb).1, (f2 b hb).2⟩
  have st3 := T.keep _ _ (s2.heap.push { cls := .type "set", dict := none, data := .set #[] 0 (.fresh 0 0 (!X.w.params.followText "set-order")) }) st2 fun b _ o e => Heap.get?_push_of_some _ e
  revert w0 f3 st3 I3
  generalize upd H2 D (SetK X.prog X.w D (fun _ => false) 0) = H3
  generalize hs3 : ({ s2 with heap := s2.heap.push { cls := .type "set", dict := none, data := .set #[] 0 (.fresh 0 0 (!X.w.params.followText "set-order")) } } : Shared) = s3
  have hh3 : s2.heap.push { cls := .type "set", dict := none, data := .set #[] 0 (.fresh 0 0 (!X.w.params.followText "set-order")) } = s3.heap := by rw [← hs3]
  have hz3 : s3.heap.objs.size = D + 1 := by rw [← hh3, Heap.size_push, hD]
  rw [hh3]
  intro w0 I3 f3 st3
  have I4 := block_start I3 ok hN fun b hb => ⟨f3 b hb, by rw [hz3]; exact Nat.lt_succ_of_lt (lt b hb)⟩
  have pg := hg s3 H3 s3.heap.objs.size (cellsFrom (s3.heap.objs.size + 1) scope.names (cloFrom X.env.cells scope.names [])) fp
  have pe := he s3 H3 s3.heap.objs.size (cellsFrom (s3.heap.objs.size + 1) scope.names (cloFrom X.env.cells scope.names [])) fp
  have st4 := T.keep _ _ (pushCells (s3.heap.push { cls := .type "dict", data := .dict #[] }) scope.names) st3 fun b _ o e => pushCells_keeps _ _ _ _ (Heap.get?_push_of_some _ e)
  -- the block
  generalize hcl : cellsFrom (s3.heap.objs.size + 1) scope.names (cloFrom X.env.cells scope.names []) = cl at *
  show codeAny _ _ (.compStart (sc1 elt tg iter scope pos) 0 (.ref it) (.ref D) (compEnvC scope cl s3.heap.objs.size X.env)) (compPost (model X.prog X.w) X.A X.xe none (EP X pins σ Q) (.ref D) s3.heap.objs.size) { s3 with heap := pushCells (s3.heap.push { cls := .type "dict", data := .dict #[] }) scope.names }
  generalize hs4 : ({ s3 with heap := pushCells (s3.heap.push { cls := .type "dict", data := .dict #[] }) scope.names } : Shared) = s4 at I4 ⊢
  have st4 : tn 0 s4.heap := by rw [← hs4]; exact st4
  obtain ⟨Y, hY⟩ : ∃ Y, X.blk s3 H3 scope (compEnvC scope cl s3.heap.objs.size X.env) fp = Y := ⟨_, rfl⟩
  have hce : Y.env = compEnvC scope cl s3.heap.objs.size X.env := by rw [← hY]
  have hloc : Y.env.locals = s3.heap.objs.size := by rw [hce]; rfl
  rw [← hce]
  have yp : Y.prog = X.prog := by rw [← hY]
  have yw : Y.w = X.w := by rw [← hY]
  have yA : Y.A = X.A := by rw [← hY]
  have yK : Y.K = X.K := by rw [← hY]
  have yc : Y.calm = true := by rw [← hY]; exact hc
  have yx : Y.xe = fun _ _ => False := by rw [← hY]
  have back : ∀ {σ' : St} {H' : Hp} {s' : Shared}, Inv Y [] σ' H' s' → Inv X pins σ H' s' ∧ H' s3.heap.objs.size = none ∧ ∃ m, s'.heap.Ns s3.heap.objs.size m := fun {σ' H' s'} I' => by
    have nC : H' Y.env.locals = none := I'.free
    obtain ⟨m, hn, _⟩ := I'.loc
    rw [hloc] at nC
    have hn : s'.heap.Ns Y.env.locals m := hn
    rw [hloc] at hn
    rw [← hY] at I'
    exact ⟨I3.call' (ch := fp) I'.os I'.base I'.hok I'.bare fun b hb => ⟨(f3 b hb).2.2.2.1, (f3 b hb).2.1, (f3 b hb).2.2.2.2.1, (f3 b hb).2.2.2.2.2⟩, nC, m, hn⟩
  have stay : ∀ {σ' : St} {H' : Hp} {s' : Shared}, Inv Y [] σ' H' s' → (∀ b ∈ fp, H' b = none) → ∀ b ∈ fp, FpOk Y [] H' b := fun {σ' H' s'} I' hn b hb => by
    rw [← hY] at I' ⊢
    exact ⟨hn b hb, (I'.ok.exf b hb).1, I'.ok.exfs b hb, .inl hb, fun x c e => (I'.ok.exf b hb).2 x c e, fun p hp => absurd (show p ∈ ([] : List (Addr × Obj)) ++ [] from hp) (by simp)⟩
  rw [hY] at I4 pg pe
  have n3 : ∀ b ∈ fp, H3 b = none := fun b hb => (f3 b hb).1
  rw [← yp, ← yw, ← yK] at T
  rw [← yp, ← yw] at turn
  have key : codeAny (model Y.prog Y.w) Y.A (.compLoop (sc1 elt tg iter scope pos) 0 (.ref it) (.ref D) Y.env) (compPost (model X.prog X.w) X.A X.xe none (EP X pins σ Q) (.ref D) s3.heap.objs.size) s4 := by
    refine compLoopS_any (fun n s' => ∃ i H', Inv Y [] (L2.wipe σ (own.map (·.2))) H' s' ∧ tn i s'.heap ∧ (∀ b ∈ fp, H' b = none) ∧ W i n H') (fun n s5 hW => ?_) m0 ⟨0, H3, I4, st4, n3, w0⟩
    obtain ⟨i, H5, I5, st5, n5, w5⟩ := hW
    rcases turn i n H5 w5 with ⟨stop, qq⟩ | ⟨go, Nx, hNx, step⟩
    · refine thnF (T.done Y rfl rfl rfl yc i [] s5 _ H5 (fun _ _ => False) I5 (stay I5 n5) st5 stop) fun r s6 ⟨hr, I6⟩ => ?_
      subst hr
      obtain ⟨I7, nC, m, hn⟩ := back I6
      refine ⟨m, hn, fun h'' sb => ?_⟩
      obtain ⟨_, f1, f2, f3, f4, f5⟩ := I3.fpOk (Nat.le_refl _) nC
      exact ⟨.ref D, H5, I7.turned (t' := s6.toks) (fun b o hb e => (sb.2 b hb).trans e) nC f1 f3 f4 f5, rfl, qq⟩
    · refine thnF (lap yc T pg I5 (stay I5 n5) st5 go step yx) fun r s6 ⟨u, hr, q⟩ => ?_
      subst hr
      refine thnF q fun _ s7 q7 => thnF q7 fun _ s8 ⟨pn, σ8, H8, I8, ⟨hw, q8⟩, bk⟩ => ?_
      refine wpAny_tests_nil ?_
      refine iteT ?_
      have r1 := pe.run _ s8 σ8 H8 _ I8 q8
      rw [yx] at r1
      refine thnF r1 fun kv s9 ⟨y, H9, I9, ry, k, S, n', ey, hS, room, nx⟩ => ?_
      subst ey
      refine wpAny_mono (mt_saddK (X := Y) _ s9 σ8 H9 (.ref D) [kV k] (.ref D) [kv] (fun _ H' => Nx H') I9 rfl (.cons ry .nil) ⟨D, k, S, n', rfl, rfl, hS, room, nx⟩) (fun v s10 ⟨x, H10, I10, r10, nx⟩ => ?_) (fun _ _ z => by rw [yx] at z; exact z.elim)
      have hl8 : (L2.wipe σ (own.map (·.2))).length = σ8.length := by rw [← hw, L2.wipe_length]
      have hk8 : ∀ (j : Nat) v, (L2.wipe σ (own.map (·.2)))[j]? = some (some v) → σ8[j]? = some (some v) := fun j v e => by
        rw [← hw] at e
        exact (L2.wipe_some e).1
      obtain ⟨m', hm, w'⟩ := hNx H10 nx
      obtain ⟨st', n'⟩ := bk _ _ _ I10
      exact ⟨m', hm, i + 1, H10, I10.unpinned.weak hl8 hk8, st', n', w'⟩
  rw [yp, yw, yA] at key
  rw [yp, yw] at T
  exact codeAny_compStart_set key (T.self X.A 0 _ _ _ st4 key)
end
def seenOf : List D → List D → List D
  | [], acc => acc
  | d :: r, acc => seenOf r (if d ∈ acc then acc else acc ++ [d])
def xLenSc (src : Sx) (w : List Nat) (g : Gx) (f : Ex) : Ex := fun δ => (src δ).bind fun ds => (cL g tTrue f (δ.wipe w) ds).bind fun ys => if ys.all keyOk = true ∧ ys.length ≤ 4000 then some (.int (seenOf ys []).length) else none
theorem seen_len : ∀ (ds acc : List D), acc.length ≤ (seenOf ds acc).length ∧ (seenOf ds acc).length ≤ acc.length + ds.length
  | [], acc => ⟨Nat.le_refl _, Nat.le_refl _⟩
  | d :: r, acc => by
    have h := seen_len r (if d ∈ acc then acc else acc ++ [d])
    simp only [seenOf]
    split at h <;> rename_i hd
    · rw [if_pos hd]; simp only [List.length_cons]; omega
    · rw [if_neg hd]; simp only [List.length_append, List.length_cons, List.length_nil] at h ⊢; omega
section
variable {K : PySem.W.Frag} {κ : Kap} {P : Program} {wd : World}
/-- the set of the values seen -/
def SetD (P : Program) (wd : World) (D : Addr) (acc : List BP.D) : HO := SetK P wd D (fun k => decide (keyD k ∈ acc)) acc.length
theorem setD_nil {D : Addr} : SetD P wd D [] = SetK P wd D (fun _ => false) 0 := by
  unfold SetD
  congr 1
theorem setD_add {D : Addr} {acc : List BP.D} {k : Key} : SetK P wd D (fun j => decide (keyD j ∈ acc) || decide (j = k)) (if decide (keyD k ∈ acc) = true then acc.length else acc.length + 1) = SetD P wd D (if keyD k ∈ acc then acc else acc ++ [keyD k]) := by
  unfold SetD
  by_cases h : keyD k ∈ acc
  · rw [if_pos h, if_pos (decide_eq_true h)]
    congr 1
    funext j
    by_cases e : j = k
    · subst e; simp [h]
    · simp [e]
  · rw [if_neg h, if_neg (by simp [h])]
    congr 1
    · funext j
      by_cases e : j = k
      · subst e; simp
      · have : ¬ keyD j = keyD k := fun q => e (keyD_inj q)
        simp [e, this]
    · simp
theorem sc_rd {g : Gx} {ss w : List Nat} {f : Ex} {σ : L2.St} {δ : En} {Z : Addr → Prop} {J : It} {H1 : Hp} {ds ys : List D} (z : ZOk Z H1) (E : EnvR K κ H1 Z σ δ) (hlen : ds.length ≤ sizeLine) (wk : Wk κ Z J H1 ds (fun _ => True))
    (hy : cL g tTrue f (δ.wipe w) ds = some ys) (hk : ys.all keyOk = true) (hm : ys.length ≤ 4000) (hss : ∀ i ∈ ss, i ∈ w) {D : Addr} (hD : H1 D = none) {Qd : Hp → Prop} (hq : ∀ H', Ext H1 H' → H' D = some (SetD P wd D (seenOf ys [])) → Qd H') :
    ∃ W : Nat → Nat → Hp → Prop, (∃ m, W 0 m (upd H1 D (SetK P wd D (fun _ => false) 0))) ∧ ∀ i m H, W i m H → (J.stop i H ∧ Qd H) ∨ (J.go i H ∧ ∃ Nx : Hp → Prop, (∀ H', Nx H' → ∃ m', m' < m ∧ W (i + 1) m' H') ∧ ∀ x H', J.yld i H x H' →
      tPG K κ g ss x (L2.wipe σ w) H' fun σ2 H2 => L2.wipe σ2 w = L2.wipe σ w ∧
        tPX K κ f σ2 H2 fun y H3 => ∃ (k : Key) (S : Key → Bool) (n : Nat), y = kV k ∧ H3 D = some (SetK P wd D S n) ∧ n + 1 < scanBound ∧ Nx (upd H3 D (SetK P wd D (fun j => S j || decide (j = k)) (if S k = true then n else n + 1)))) := by
  have hz : ∀ a, H1 a ≠ none → (Z a ∨ a = D) → Z a := fun a h q => q.resolve_right fun e => h (by rw [e]; exact hD)
  have E1 : EnvR K κ H1 (fun a => Z a ∨ a = D) (L2.wipe σ w) (δ.wipe w) := (E.wipe w).add hD
  let Ac : List BP.D → List BP.D → Hp → Prop := fun rest acc H => Ext H1 H ∧ H D = some (SetD P wd D acc) ∧ seenOf rest acc = seenOf ys [] ∧ rest.all keyOk = true
  refine ⟨fun i m H => m = ds.length - i ∧ i ≤ ds.length ∧ ∃ rest acc, cL g tTrue f (δ.wipe w) (ds.drop i) = some rest ∧ Ac rest acc H, ⟨ds.length, by simp, Nat.zero_le _, ys, [], by simpa using hy, .upd hD, by rw [upd_same, setD_nil], rfl, hk⟩, ?_⟩
  rintro i m H ⟨rfl, hi, rest, acc, hc, e, hd, hs, hr⟩
  have zz := zok_D z e hd fun _ => nofun
  obtain ⟨go, stop⟩ := wk _ i H hz zz fun a o _ h => e a o h
  by_cases hlt : i < ds.length
  · have hg : ds[i]? = some ds[i] := by simp [hlt]
    obtain ⟨hgo, hyld⟩ := go _ hg
    rw [List.drop_eq_getElem_cons hlt] at hc
    obtain ⟨δ', h1, h2⟩ := Option.bind_eq_some_iff.mp hc
    obtain ⟨b, h3, h4⟩ := Option.bind_eq_some_iff.mp h2
    cases h3
    rw [if_pos rfl] at h4
    obtain ⟨y, h5, h6⟩ := Option.bind_eq_some_iff.mp h4
    obtain ⟨zs, h7, h8⟩ := Option.bind_eq_some_iff.mp h6
    cases h8
    rw [List.all_cons, Bool.and_eq_true] at hr
    refine .inr ⟨hgo, fun H' => i + 1 ≤ ds.length ∧ Ac zs (if y ∈ acc then acc else acc ++ [y]) H', fun H' n => ⟨ds.length - (i + 1), by omega, rfl, n.1, zs, _, h7, n.2⟩, fun x H' yl => ?_⟩
    obtain ⟨e2, rx⟩ := hyld x H' yl
    refine tPG_of (zz.ext e2) (E1.ext (e.trans e2)) rx h1 hss fun σ2 H2 e3 E2 w2 u2 => ⟨w2.trans (wipe_wipe σ w), δ', _, (zz.ext e2).ext e3, E2, y, h5, fun v H4 e4 r => ?_⟩
    have e24 := (e2.trans e3).trans e4
    have ky : y = keyD (keyOf y) := keyOf_ok hr.1
    have kv : v = kV (keyOf y) := rep_key (by rw [← ky]; exact r)
    have bound : acc.length + 1 < scanBound := by
      have h9 := (seen_len (y :: zs) acc).1
      rw [hs] at h9
      have h10 := (seen_len ys []).2
      simp only [List.length_nil] at h10
      unfold scanBound
      omega
    refine ⟨keyOf y, _, _, kv, e24 _ _ hd, bound, hlt, ext_write (e.trans e24) hD, ?_, hs, hr.2⟩
    rw [upd_same]
    have := setD_add (P := P) (wd := wd) (D := D) (acc := acc) (k := keyOf y)
    rw [← ky] at this
    rw [← this, ← ky]
  · have hl : i = ds.length := by omega
    subst hl
    rw [List.drop_length] at hc
    cases hc
    exact .inl ⟨stop rfl, hq H e (by rw [hd]; exact congrArg (fun l => some (SetD P wd D l)) hs)⟩
end
section
variable {κ : Kap} {X : Cx} {a b c e : Expr} {es : List Expr} {f fa fb fc : Ex} {pos p p2 p3 apos : Pos} {k : Nat}
/-- len of a set of keys -/
theorem call_len_setD : CallR X (.builtin "len") (fun xs H Q => ∃ (p : Addr) (acc : List D), xs = [.ref p] ∧ H p = some (SetD X.prog X.w p acc) ∧ acc.length ≤ 4000 ∧ Q (.int (acc.length : Nat)) H) := by
  intro pins s σ H xs us Q I r h
  obtain ⟨p, acc, rfl, hp, hl, q⟩ := h
  obtain ⟨u, rfl, rx⟩ := vals1 r
  obtain rfl : u = .ref p := rx
  obtain ⟨o, es, ep, t, ho, hex, hd, _, _, _, hf, hn⟩ := setK_get I hp
  exact call_len_set ho hex hd hf (by rw [hn]; omega) ⟨.int (acc.length : Nat), H, I.tok _, ⟨_, by rw [hn]⟩, q⟩
theorem X_lenSc {elt tg iter : Expr} {scope : Scope} {own : List (PySem.Str × Nat)} {cc : Bool} {src : Sx} {g : Gx} {ss : List Nat} (kn : Kn X k) (hgl : Gl X "len") (hml : X.mg "len" = none) (hi : PIx κ X tg iter cc src) (ok : BlkOk X.N X.env.scope scope own)
    (hg : ∀ (s : Shared) (H : Hp) (C : Addr) (cl : List (PySem.Str × Addr)) (fp : List Addr), PGx κ (X.blk s H scope (compEnvC scope cl C X.env) fp) tg g ss)
    (he : ∀ (s : Shared) (H : Hp) (C : Addr) (cl : List (PySem.Str × Addr)) (fp : List Addr), PX κ (X.blk s H scope (compEnvC scope cl C X.env) fp) elt f) (hss : ∀ i ∈ ss, i ∈ own.map (·.2) := by decide) (hs : ∀ x, foldedSetIterable iter X.env x = pure x := by intro _; rfl)
    (hst : starEach [sc1 elt tg iter scope p2] X.env = (false, eval (sc1 elt tg iter scope p2) X.env) :: starEach [] X.env := by rfl) (hpl : (backTo pos (starEach [] X.env)).any (·.1) = false := by rfl) : PX κ X (.Call (.Name "len" p) [sc1 elt tg iter scope p2] [] pos) (xLenSc src (own.map (·.2)) g f) :=
  pe_mono (pe_callB call_len_setD hgl hml boot_len (pa_cons (pe_scK kn.calm kn.nd hi ok hg he hs) pa_nil hst) (he := hst) (hpl := hpl)) fun σ H Q ⟨δ, Z, z, E, d, hd, q⟩ => by
    obtain ⟨ds, h1, h2⟩ := Option.bind_eq_some_iff.mp hd
    obtain ⟨ys, h3, h4⟩ := Option.bind_eq_some_iff.mp h2
    split at h4
    · next hm =>
      cases h4
      exact ⟨δ, Z, z, E, ds, h1, fun J H1 e1 hlen wk D hD => sc_rd (z.ext e1) (E.ext e1) hlen (wk.weak fun _ _ => trivial) h3 hm.1 hm.2 hss hD fun H' e2 r => ⟨D, _, rfl, r, by have := (seen_len ys []).2; simp only [List.length_nil] at this; omega, q _ H' (e1.trans e2) rfl⟩⟩
    · cases h4
end
end BP
namespace BP
open PySem PySem.Spec L2
/-- a tuple at a, a list at b, their items in new pairs -/
def Izm (K : PySem.W.Frag) (a b : Addr) : It :=
  ⟨fun i H => ∃ (xs ys : List V) (x y : V), SqT K H a xs ∧ SqL K H b ys ∧ xs[i]? = some x ∧ ys[i]? = some y,
   fun i H v H' => ∃ (N : Addr) (x y : V), v = .ref N ∧ H N = none ∧ H' = upd H N (.tup [x, y]) ∧ (∀ l, SqT K H a l → l[i]? = some x) ∧ ∀ l, SqL K H b l → l[i]? = some y,
   fun i H => ∃ xs ys : List V, SqT K H a xs ∧ SqL K H b ys ∧ i ≤ xs.length ∧ i ≤ ys.length ∧ (i = xs.length ∨ i = ys.length)⟩
theorem zip_sep {z TI TO i1 i2 a b : Addr} (h : [z, TI, TO, i1, i2].Nodup) (ha : a ∉ [z, TI, TO, i1, i2]) (hb : b ∉ [z, TI, TO, i1, i2]) : ZipSep2 z TI TO i1 i2 [i1, a] [i2, b] := by
  simp only [List.nodup_cons, List.mem_cons, List.not_mem_nil, or_false, not_or] at h ha hb
  obtain ⟨⟨h1, h2, h3, h4⟩, ⟨h5, h6, h7⟩, ⟨h8, h9⟩, h10, _⟩ := h
  obtain ⟨a1, a2, a3, a4, a5⟩ := ha
  obtain ⟨b1, b2, b3, b4, b5⟩ := hb
  refine ⟨fun e => h1 e.symm, fun e => h2 e.symm, h5, h6, by simp, ?_, ?_, h7, by simp, ?_, ?_, ?_, ?_⟩ <;> simp only [List.mem_cons, List.not_mem_nil, or_false, not_or]
  · exact ⟨h3, fun e => a1 e.symm⟩
  · exact ⟨h8, fun e => a3 e.symm⟩
  · exact ⟨h4, fun e => b1 e.symm⟩
  · exact ⟨h9, fun e => b3 e.symm⟩
  · exact ⟨h10, fun e => b4 e.symm⟩
  · exact ⟨fun e => h10 e.symm, fun e => a5 e.symm⟩
theorem turn_zm {P : Program} {w : World} {K : PySem.W.Frag} {elts : List Expr} {kk : Nat} {tpos : Pos} {z TI TO i1 i2 a b : Addr} (nd : [z, TI, TO, i1, i2].Nodup) (na : a ∉ [z, TI, TO, i1, i2]) (nb : b ∉ [z, TI, TO, i1, i2]) :
    Turn P w K (.Tuple elts kk tpos) (Izm K a b) [z, TI, TO, i1, i2] z (fun i h => IsZip h z TI TO .none ∧ IsTupOf2 h TI (.ref i1) (.ref i2) ∧ (∃ x y, IsTupOf2 h TO x y) ∧ h.IsTupleIter i1 a i ∧ h.IsListIter i2 b i) where
  mem := by simp
  obj := fun i h st c hc => by
    obtain ⟨hz, hTI, ⟨x, y, hTO⟩, ⟨o1, e1, _, d1⟩, ⟨o2, e2, _, d2⟩⟩ := st
    have e' : c = z ∨ c = TI ∨ c = TO ∨ c = i1 ∨ c = i2 := by simpa using hc
    rcases e' with rfl | rfl | rfl | rfl | rfl
    · exact ⟨_, hz, fun v q => nomatch q⟩
    · exact ⟨_, hTI, fun v q => nomatch q⟩
    · exact ⟨_, hTO, fun v q => nomatch q⟩
    · exact ⟨o1, e1, fun v q => by rw [d1] at q; cases q⟩
    · exact ⟨o2, e2, fun v q => by rw [d2] at q; cases q⟩
  keep := fun i h h' st k => by
    obtain ⟨hz, hTI, ⟨x, y, hTO⟩, h1, h2⟩ := st
    exact ⟨k z (by simp) _ hz, k TI (by simp) _ hTI, ⟨x, y, k TO (by simp) _ hTO⟩, h1.at fun o q => k i1 (by simp) o q, h2.at fun o q => k i2 (by simp) o q⟩
  item := by
    intro X hP hw hK hc i pins s σ H E I hf st hg
    subst hP hw hK
    obtain ⟨hz, hTI, ⟨x0, y0, hTO⟩, h1, h2⟩ := st
    obtain ⟨xs, ys, x, y, hqx, hqy, hx, hy⟩ := hg
    obtain ⟨its, rv, p, _⟩ := I.tuple hqx
    obtain ⟨its2, rv2, p2, _⟩ := I.list hqy
    obtain ⟨u, hu, ru⟩ := rv.get hx
    obtain ⟨u2, hu2, ru2⟩ := rv2.get hy
    have S := zip_sep nd na nb
    have nai : a ≠ i1 := fun e => na (by simp [e])
    have nbi : b ≠ i2 := fun e => nb (by simp [e])
    have hh : X.A.in1.handled = none := I.ok.hd hc
    have D1 := Draws.tuple (prog := X.prog) (w := X.w) hh i1 a nai its.toArray
    have D2 := Draws.list (prog := X.prog) (w := X.w) hh i2 b nbi its2.toArray
    have hzl : z < s.heap.objs.size := Heap.lt_size hz
    have l1 : i < its.toArray.size := by have := (List.getElem?_eq_some_iff.mp hu).1; simpa using this
    have l2 : i < its2.toArray.size := by have := (List.getElem?_eq_some_iff.mp hu2).1; simpa using this
    refine wpAny_pyNext_zipD2_item S D1 D2 hz hTI hTO ⟨h1, p⟩ ⟨h2, p2.isList⟩ l1 l2 fun x1 x2 h' tk y1 y2 z' TO' s1' s2' hT hsz hk => ?_
    have e1 : x1 = u := by rw [show its.toArray[i]? = some u by simpa using hu] at y1; cases y1; rfl
    have e2 : x2 = u2 := by rw [show its2.toArray[i]? = some u2 by simpa using hu2] at y2; cases y2; rfl
    subst e1 e2
    refine ⟨_, rfl, wpAny_letOwnedTupleGo_zip (s := { s with heap := h', toks := tk }) z' fun h'' z'' sb => ?_⟩
    have hT2 : h''.get? s.heap.objs.size = some { cls := .type "tuple", data := .seq #[x1, x2] } := (sb.2 _ (Nat.ne_of_gt hzl)).trans hT
    have new : ObjOk X.prog X.w (upd H s.heap.objs.size (.tup [x, y])) h'' s.heap.objs.size (.tup [x, y]) := ⟨by show 2 ≤ sizeLine; decide, [x1, x2], .cons ru (.cons ru2 .nil), ⟨_, hT2, rfl, _, rfl⟩⟩
    have I1 : Inv X pins σ (upd H s.heap.objs.size (.tup [x, y])) { s with heap := h'', toks := tk } :=
      I.turnedNew (t' := tk) (ch := [z, TI, TO, i1, i2]) (fun c o hb q => (sb.2 c (fun q' => hb (by simp [q']))).trans (hk c o (fun q' => hb (by simp [q'])) (fun q' => hb (by simp [q'])) (fun q' => hb (by simp [q'])) (fun q' => hb (by simp [q'])) q)) hf (Nat.le_refl _) new
    refine ⟨.ref s.heap.objs.size, _, I1, rfl, ⟨_, x, y, rfl, I.hok.fresh (Nat.le_refl _), rfl, fun l hl => by rw [I.tuple_inj hl hqx]; exact hx, fun l hl => by rw [I.list_inj hl hqy]; exact hy⟩, ⟨z'', ?_, ⟨x1, x2, ?_⟩, ?_, ?_⟩, fun c hcm => ?_⟩
    · exact (sb.2 _ S.TIz).trans (hk _ _ S.TIz S.TITO S.TIi1 S.TIi2 hTI)
    · exact (sb.2 _ S.TOz).trans TO'
    · exact s1'.1.at fun o q => (sb.2 _ (fun e => S.zi1 e.symm)).trans q
    · exact s2'.1.at fun o q => (sb.2 _ (fun e => S.zi2 e.symm)).trans q
    · have hlt : c < s.heap.objs.size := by
        have e' : c = z ∨ c = TI ∨ c = TO ∨ c = i1 ∨ c = i2 := by simpa using hcm
        rcases e' with rfl | rfl | rfl | rfl | rfl
        · exact hzl
        · exact Heap.lt_size hTI
        · exact Heap.lt_size hTO
        · obtain ⟨_, e1, _⟩ := h1; exact Heap.lt_size e1
        · obtain ⟨_, e2, _⟩ := h2; exact Heap.lt_size e2
      rw [upd_ne (Nat.ne_of_lt hlt)]
      exact (hf c hcm).1
  done := by
    intro X hP hw hK hc i pins s σ H E I hf st hg
    subst hP hw hK
    obtain ⟨hz, hTI, ⟨x0, y0, hTO⟩, h1, h2⟩ := st
    obtain ⟨xs, ys, hqx, hqy, hi1, hi2, hend⟩ := hg
    obtain ⟨its, rv, p, _⟩ := I.tuple hqx
    obtain ⟨its2, rv2, p2, _⟩ := I.list hqy
    have S := zip_sep nd na nb
    have hh : X.A.in1.handled = none := I.ok.hd hc
    have D1 := Draws.tuple (prog := X.prog) (w := X.w) hh i1 a (fun e => na (by simp [e])) its.toArray
    have D2 := Draws.list (prog := X.prog) (w := X.w) hh i2 b (fun e => nb (by simp [e])) its2.toArray
    have n1 : its.toArray.size = xs.length := by rw [List.size_toArray]; exact rv.length.symm
    have n2 : its2.toArray.size = ys.length := by rw [List.size_toArray]; exact rv2.length.symm
    refine wpAny_pyNext_zipD2_end S D1 D2 hz hTI hTO ⟨h1, p⟩ ⟨h2, p2.isList⟩ (by rw [n1]; exact hi1) (by rw [n2]; exact hi2) (by rw [n1, n2]; exact hend) fun h' tk hk => ⟨rfl, I.turnedL (t' := tk) (ch := [z, TI, TO, i1, i2]) (fun c o hb q =>
      hk c o (fun q' => hb (by simp [q'])) (fun q' => hb (by simp [q'])) (fun q' => hb (by simp [q'])) (fun q' => hb (by simp [q'])) q) hf⟩
  self := fun A i s Q E st h => wpAny_pyIter_zip st.1 h
theorem nin5 (n a : Nat) (h : a < n) : a ∉ [n + 4, n + 2, n + 3, n, n + 1] := by simp; omega
theorem ge5 (n c : Nat) (h : c ∈ [n + 4, n + 2, n + 3, n, n + 1]) : n ≤ c := by simp at h; omega
theorem nd5 (n : Nat) : [n + 4, n + 2, n + 3, n, n + 1].Nodup := by simp
def iZm (K : PySem.W.Frag) (ta : TA) : TI := fun σ H R => ta σ H fun vs H1 => ∃ a b xs ys, vs = [.ref a, .ref b] ∧ SqT K H1 a xs ∧ SqL K H1 b ys ∧ R (Izm K a b) H1
theorem pi_zm {X : Cx} {e e2 : Expr} {ta : TA} {p pos tpos : Pos} {elts : List Expr} {kk : Nat} (hg : Gl X "zip") (hm : X.mg "zip" = none) (ha : PA X [e, e2] ta)
    (hs : starEach [e, e2] X.env = (false, eval e X.env) :: starEach [e2] X.env := by rfl) (hpl : (backTo pos (starEach [e2] X.env)).any (·.1) = false := by rfl) : PI X (.Tuple elts kk tpos) (.Call (.Name "zip" p) [e, e2] [] pos) (iZm X.K ta) := by
  refine ⟨fun pins s σ H R I h => ?_⟩
  refine PyProof.Rows.Call_ (ld_blt I hg hm PyProof.Rows.boot_zip (PyProof.Rows.callWith_type1 (thn (ha.run pos pins s σ H _ I h) fun us s1 ⟨vs, H1, I1, r1, a, b, xs, ys, ex, hqx, hqy, q⟩ => ?_) hs hpl))
  subst ex
  obtain ⟨u1, u2, rfl, r1, r2⟩ := vals2 r1
  obtain rfl : u1 = .ref a := r1
  obtain rfl : u2 = .ref b := r2
  obtain ⟨its, rv, p1, _⟩ := I1.tuple hqx
  obtain ⟨its2, rv2, p2, _⟩ := I1.list hqy
  obtain ⟨o1, ho1, _⟩ := id p1
  have la : a < s1.heap.objs.size := Heap.lt_size ho1
  have lb : b < s1.heap.objs.size := p2.lt
  refine zip_begins2 (begins_tuple a its.toArray) (begins_list b its2.toArray) p1 p2.isList fun h' hz hTI hTO h1 h2 hsz hk => wpAny_pyIter_zip hz ?_
  have I2 : Inv X pins σ H1 { s1 with heap := h' } := I1.kept (t' := s1.toks) hk
  refine ⟨s1.heap.objs.size + 4, [s1.heap.objs.size + 4, s1.heap.objs.size + 2, s1.heap.objs.size + 3, s1.heap.objs.size, s1.heap.objs.size + 1], _, _, H1, rfl, I2, turn_zm (nd5 _) (nin5 _ _ la) (nin5 _ _ lb), ⟨hz, hTI, ⟨_, _, hTO⟩, ⟨_, h1, rfl, rfl⟩, ⟨_, h2, rfl, rfl⟩⟩, fun c hcm => ?_, q⟩
  have hle : s1.heap.objs.size ≤ c := ge5 _ _ hcm
  exact I1.fpOk hle (I1.hok.fresh hle)
def zipD : List D → List D → List D
  | a :: r, b :: t => .tup [a, b] :: zipD r t
  | _, _ => []
theorem zipD_len : ∀ (ds es : List D), (zipD ds es).length = min ds.length es.length
  | [], _ => by simp [zipD]
  | _ :: _, [] => by simp [zipD]
  | a :: r, b :: t => by simp [zipD, zipD_len r t]
theorem zipD_at : ∀ (ds es : List D) (i : Nat) (d : D), (zipD ds es)[i]? = some d → ∃ a b, ds[i]? = some a ∧ es[i]? = some b ∧ d = .tup [a, b]
  | [], _, i, d, h => by simp [zipD] at h
  | _ :: _, [], i, d, h => by simp [zipD] at h
  | a :: r, b :: t, 0, d, h => by simp [zipD] at h; exact ⟨a, b, rfl, rfl, h.symm⟩
  | a :: r, b :: t, i + 1, d, h => by
    simp only [zipD, List.getElem?_cons_succ] at h
    obtain ⟨x, y, h1, h2, h3⟩ := zipD_at r t i d h
    exact ⟨x, y, by simpa using h1, by simpa using h2, h3⟩
def sZip (g : Sx) : Sx := fun δ => (g δ).bind fun d => match d with
  | [.tup ds, .lst es] => some (zipD ds es)
  | _ => none
theorem I_zip {κ : Kap} {X : Cx} {e e2 : Expr} {g : Sx} {p pos tpos : Pos} {elts : List Expr} {kk : Nat} (hg : Gl X "zip") (hm : X.mg "zip" = none) (ha : PAx κ X [e, e2] g)
    (hs : starEach [e, e2] X.env = (false, eval e X.env) :: starEach [e2] X.env := by rfl) (hpl : (backTo pos (starEach [e2] X.env)).any (·.1) = false := by rfl) : PIx κ X (.Tuple elts kk tpos) (.Call (.Name "zip" p) [e, e2] [] pos) true (sZip g) := pi_mono (pi_len (pi_zm hg hm ha hs hpl)) fun σ H R ⟨δ, Z, z, E, ds, hd, q⟩ => by
  obtain ⟨y, h1, h2⟩ := Option.bind_eq_some_iff.mp hd
  refine ⟨δ, Z, z, E, y, h1, fun vs H1 e1 r => ?_⟩
  split at h2
  · next ds es =>
    cases h2
    obtain ⟨v, t, rfl, ⟨pa, us, rfl, hpa, rs⟩, w, t2, rfl, ⟨pb, ws, rfl, hpb, rt⟩, rfl⟩ := r
    obtain ⟨na, hpa'⟩ := hide_some.mp hpa
    obtain ⟨nb, hpb'⟩ := hide_some.mp hpb
    refine ⟨pa, pb, us, ws, rfl, SqT.of hpa', SqL.of hpb', fun l => q _ _ e1 ?_ fun Z' i H hz z hk => ?_⟩
    · rw [zipD_len]
      have := l.tup pa us (SqT.of hpa')
      rw [rs.length] at this
      omega
    · have sa : SqT X.K H pa us := SqT.of (hk pa _ (fun _ => na) hpa')
      have sb : SqL X.K H pb ws := SqL.of (hk pb _ (fun _ => nb) hpb')
      have le : Le (hide Z H1) (hide Z' H) := le_later hz fun a o n e => hk a o (fun _ => n) e
      refine ⟨fun d hd => ?_, fun hl => ⟨us, ws, sa, sb, ?_⟩⟩
      · obtain ⟨x, y, h3, h4, rfl⟩ := zipD_at _ _ _ _ hd
        obtain ⟨vx, h5, h6⟩ := rs.get h3
        obtain ⟨vy, h7, h8⟩ := rt.get h4
        refine ⟨⟨us, ws, vx, vy, sa, sb, h5, h7⟩, fun u H' ⟨N, x', y', e2, hN, e3, f1, f2⟩ => ?_⟩
        subst e2 e3
        have g1 := f1 us sa
        have g2 := f2 ws sb
        rw [h5] at g1
        rw [h7] at g2
        cases g1
        cases g2
        exact ⟨.upd hN, N, _, rfl, hide_new z hN, vx, _, rfl, Rep.ext (.upd hN) (Rep.le le _ _ h6), vy, [], rfl, Rep.ext (.upd hN) (Rep.le le _ _ h8), rfl⟩
      · rw [zipD_len] at hl
        rw [rs.length, rt.length]
        omega
  · cases h2
end BP
namespace BP
open PySem L2
section
variable {κ : Kap} {X : Cx} {a b c e : Expr} {es : List Expr} {f fa fb fc : Ex} {g gr : Sx} {pos p p2 apos : Pos} {k : Nat}
theorem cat_rd : ∀ x y H Q, r2c κ oCat x y H Q → rCat x y H Q := fun x y H Q ⟨Z, d, e, z, r1, r2, c, hc, q⟩ => by
  cases d <;> cases e <;> simp only [oCat] at hc <;> first | (cases hc; done) | skip
  split at hc
  · next hl =>
    cases hc
    obtain ⟨p1, us, rfl, h1, s1⟩ := r1
    obtain ⟨p2, vs, rfl, h2, s2⟩ := r2
    exact ⟨p1, p2, us, vs, rfl, rfl, (hide_some.mp h1).2, (hide_some.mp h2).2, by rw [s1.length, s2.length]; exact most_ok hl, fun p' hp => q _ _ (.upd hp) (new_lst z hp (s1.append s2))⟩
  · cases hc
theorem X_cat (ha : PX κ X a fa) (hb : PX κ X b fb) : PX κ X (.BinOp a .Add b pos) (x2 oCat fa fb) := X_binc op_cat cat_rd ha hb
theorem catT_rd {K : PySem.W.Frag} : ∀ x y H Q, r2c κ oCatT x y H Q → rCatA K x y H Q := fun x y H Q ⟨Z, d, e, z, r1, r2, c, hc, q⟩ => by
  cases d <;> cases e <;> simp only [oCatT] at hc <;> first | (cases hc; done) | skip
  split at hc
  · next hl =>
    cases hc
    obtain ⟨p1, us, rfl, h1, s1⟩ := r1
    obtain ⟨p2, vs, rfl, h2, s2⟩ := r2
    refine ⟨p1, p2, us, vs, rfl, rfl, SqT.of (hide_some.mp h1).2, SqT.of (hide_some.mp h2).2, by rw [s1.length, s2.length]; exact most_ok hl.2.2, fun e => ?_, fun _ e => ?_, fun _ _ p' hp => q _ _ (.upd hp) (new_tup z hp (s1.append s2))⟩
    · subst e; have := s1.length; exact absurd (List.length_eq_zero_iff.mp this.symm) hl.1
    · subst e; have := s2.length; exact absurd (List.length_eq_zero_iff.mp this.symm) hl.2.1
  · cases hc
theorem X_catT (ha : PX κ X a fa) (hb : PX κ X b fb) : PX κ X (.BinOp a .Add b pos) (x2 oCatT fa fb) := X_binc op_catA catT_rd ha hb
def oSplit : D → D → Option D
  | .str a, .str b => if (b.length == 0) = false ∧ a.length + 2 ≤ most then some (.lst ((Txt.split a b).map .str)) else none
  | _, _ => none
theorem reps_strs {H : Hp} : ∀ (ys : List Str), Reps κ H (ys.map .str) (ys.map V.str)
  | [] => rfl
  | y :: r => ⟨.str y, _, rfl, rfl, reps_strs r⟩
theorem X_split {o : Expr} {fo fe : Ex} (ho : PX κ X o fo) (he : PX κ X e fe) (hs : starEach [e] X.env = [(false, eval e X.env)] := by rfl) (hbase : attributeBase o "split" X.env (eval o X.env) = eval o X.env := by rfl) (hline : (apos.endLine == pos.line) = true := by rfl) : PX κ X (.Call (.Attribute o "split" apos) [e] [] pos) (x2 oSplit fo fe) :=
  pe_mono (pe_split ho he hs hbase hline) fun σ H Q ⟨δ, Z, z, E, d, hd, q⟩ => by
    obtain ⟨x, y, h1, h2, h3⟩ := x2_some hd
    refine ⟨δ, Z, z, E, x, h1, fun v H1 e1 r1 => ?_⟩
    cases x <;> cases y <;> simp only [oSplit] at h3 <;> first | (cases h3; done) | skip
    split at h3
    · next hl =>
      cases h3
      refine ⟨⟨_, r1⟩, δ, Z, z.ext e1, E.ext e1, _, h2, fun u H2 e2 r2 => ⟨_, _, r1, by rw [show u = _ from r2], hl.1, most_ok hl.2, fun p' hp => q _ _ ((e1.trans e2).trans (.upd hp)) (new_lst ((z.ext e1).ext e2) hp (reps_strs _))⟩⟩
    · cases h3
def xCh (g g' : D → D → Option D) (a b c : Ex) : Ex := fun δ => (a δ).bind fun x => (b δ).bind fun y => (g x y).bind fun r => match r with
  | .bl k => if k = true then (c δ).bind fun z => g' y z else some (.bl false)
  | _ => none
theorem ch_of {K : PySem.W.Frag} {r r' : R2} {g g' : D → D → Option D} (hr : ∀ x y H Q, r2 K κ g x y H Q → r x y H Q) (hr' : ∀ x y H Q, r2 K κ g' x y H Q → r' x y H Q) (nb : ∀ x y c, g' x y = some c → ∃ k, c = .bl k) {σ : L2.St} {H : Hp} {Q : VK} (h : tPX K κ (xCh g g' fa fb fc) σ H Q) : tChain r r' (tPB K κ fa) (tPB K κ fb) (tPB K κ fc) σ H Q := by
  obtain ⟨δ, Z, z, E, d, hd, q⟩ := h
  obtain ⟨x, h1, h2⟩ := Option.bind_eq_some_iff.mp hd
  obtain ⟨y, h3, h4⟩ := Option.bind_eq_some_iff.mp h2
  obtain ⟨w, h5, h6⟩ := Option.bind_eq_some_iff.mp h4
  refine ⟨δ, Z, z, E, x, h1, fun v H1 e1 r1 => ⟨δ, Z, z.ext e1, E.ext e1, y, h3, fun u H2 e2 r2 => hr _ _ _ _ ⟨Z, x, y, (z.ext e1).ext e2, r1.ext e2, r2, w, h5, fun t H3 e3 r3 => ?_⟩⟩⟩
  cases w <;> dsimp only at h6 <;> first | (cases h6; done) | skip
  rename_i k
  refine ⟨k, r3, ?_⟩
  cases k with
  | true =>
    rw [if_pos rfl] at h6 ⊢
    obtain ⟨s, h7, h8⟩ := Option.bind_eq_some_iff.mp h6
    have e123 := (e1.trans e2).trans e3
    exact ⟨δ, Z, z.ext e123, E.ext e123, s, h7, fun t' H4 e4 r4 => hr' _ _ _ _ ⟨Z, y, s, (z.ext e123).ext e4, (r2.ext e3).ext e4, r4, d, h8, fun v' H5 e5 r5 => q v' H5 ((e123.trans e4).trans e5) r5⟩⟩
  | false =>
    rw [if_neg Bool.false_ne_true] at h6 ⊢
    cases h6
    exact q _ H3 ((e1.trans e2).trans e3) rfl
theorem X_ch {op op' : CmpOp} {r r' : R2} {g g' : D → D → Option D} (ho : OpR X (compareOp op) r) (ho' : OpR X (compareOp op') r') (hr : ∀ x y H Q, r2 X.K κ g x y H Q → r x y H Q) (hr' : ∀ x y H Q, r2 X.K κ g' x y H Q → r' x y H Q) (nb : ∀ x y c, g' x y = some c → ∃ k, c = .bl k) (ha : PB κ X a fa) (hb : PB κ X b fb) (hc : PB κ X c fc) (hm : lastMarks [op, op'] [b, c] = false := by with_unfolding_all rfl) : PX κ X (.Compare a [op, op'] [b, c] pos) (xCh g g' fa fb fc) :=
  pe_mono (pe_chain ho ho' ha hb hc hm) fun σ H Q h => ch_of hr hr' nb h
theorem T_ch {op op' : CmpOp} {r r' : R2} {g g' : D → D → Option D} (ho : OpR X (compareOp op) r) (ho' : OpR X (compareOp op') r') (hr : ∀ x y H Q, r2 X.K κ g x y H Q → r x y H Q) (hr' : ∀ x y H Q, r2 X.K κ g' x y H Q → r' x y H Q) (nb : ∀ x y c, g' x y = some c → ∃ k, c = .bl k) (ha : PB κ X a fa) (hb : PB κ X b fb) (hc : PB κ X c fc) (hm : lastMarks [op, op'] [b, c] = false := by with_unfolding_all rfl) : PTx κ X (.Compare a [op, op'] [b, c] pos) (tB (xCh g g' fa fb fc)) :=
  pt_mono (pt_chain ho ho' ha hb hc hm) fun σ H Q h => tb_of (fun _ _ _ h => ch_of hr hr' nb h) h
theorem le_bl : ∀ x y c, oLe x y = some c → ∃ k, c = .bl k := fun x y c h => by
  cases x <;> cases y <;> simp only [oLe] at h <;> first | (cases h; done) | exact ⟨_, (Option.some.inj h).symm⟩
def xMethO (i cc : Nat) (m : Str) (F : List D → Option D) (g : Sx) : Ex := fun δ => match δ[i]? with
  | some (some (.oo _ c fs)) => if c = cc ∧ fs.lookup m = none then (g δ).bind fun ds => (F (.obj c fs :: ds)).bind fun d => if flatD d = true then some d else none else none
  | _ => none
theorem X_methO (i : Nat) {pl : Sem Bool} {m x : Str} {cc : Nat} {fad : Addr} {fd : FuncData} {ps : List Str} {F : List D → Option D} {j : Nat} {p1 : Pos} (kn : Kn X k) (Fo : FnOk X.prog X.w X.K X.mg X.base CX0 j fad fd ps (spP κ F)) (hj : j ≤ k) (hC : Cls X.K (κ cc)) (hM : Meth X.K (κ cc) m fad) (hb : Binds X.K fd ps [])
    (ha : PAx κ X (e :: es) g) (hN : X.N[i]? = some x := by rfl) (hv : Vis X.env.scope x := by first | exact Or.inl rfl | exact Or.inr (Or.inl rfl) | exact Or.inr (Or.inr rfl)) (hd : (x == ("__debug__" : Str)) = false := by decide) (hcd : (x == ("__classdict__" : Str)) = false := by decide)
    (hst : starEach (e :: es) X.env = (false, eval e X.env) :: starEach es X.env := by rfl) (hpl : (backTo pos (starEach es X.env)).any (·.1) = false := by rfl)
    (ht : eval (.Call (.Attribute (.Name x p1) m apos) (e :: es) [] pos) X.env = (do
      let ov ← eval (.Name x p1) X.env
      standAt apos.atName
      let (f, first) ← holding [ov] (getMethod ov m pl)
      callWith pos f first (backTo pos (starEach (e :: es) X.env)) (backToKw pos (keywordEach [] X.env))) := by rfl) : PX κ X (.Call (.Attribute (.Name x p1) m apos) (e :: es) [] pos) (xMethO i cc m F g) :=
  pe_mono (pe_meth (pe_var hN hv hd hcd) hC hM Fo (kn.room.mono hj) hb .nil pass0 ha hst hpl ht) fun σ H Q ⟨δ, Z, z, E, d, hd, q⟩ => by
    unfold xMethO at hd
    split at hd
    · next a0 c fs hi =>
      split at hd
      · next hc =>
        obtain ⟨rfl, hno⟩ := hc
        obtain ⟨ds, h3, h4⟩ := Option.bind_eq_some_iff.mp hd
        obtain ⟨d', h5, h6⟩ := Option.bind_eq_some_iff.mp h4
        split at h6
        · next hfl =>
          cases h6
          obtain ⟨pp, dx, l, ⟨hp, _⟩, zp, hins, rf⟩ := E.at_ i _ hi
          refine ⟨_, hp, pp, dx, l, rfl, hins, repF_no rf hno, δ, Z, z, E, ds, h3, fun vs H2 e2 r2 => ?_⟩
          let Zs : Addr → Prop := fun a => Z a ∧ a ≠ pp
          have le : Le (hide Z H2) (hide Zs H2) := le_sub fun a h => h.1
          refine ⟨Zs, .obj c fs :: ds, fun a ha => (z.ext e2) a ha.1, ?_, _, h5, fun u H' e3 r3 => q u H' (e2.trans e3) (Rep.flat (fun a xs ha => ?_) _ _ hfl r3)⟩
          · rw [List.append_nil]
            exact ⟨_, vs, rfl, ⟨pp, dx, l, rfl, hide_some.mpr ⟨fun w => w.2 rfl, e2 _ _ hins⟩, RepF.le le _ _ (RepF.le (Ext.hide e2) _ _ rf)⟩, Reps.le le _ _ r2⟩
          · obtain ⟨na, hxa⟩ := hide_some.mp ha
            refine hide_some.mpr ⟨fun w => na ⟨w, fun ea => ?_⟩, hxa⟩
            subst ea
            have := e3 _ _ (e2 _ _ hins)
            rw [hxa] at this; cases this
        · cases h6
      · cases hd
    · cases hd
end
end BP
namespace BP
open PySem L2
def startE (n : Nat) (ds : List D) : En := ds.map (fun d => some (.sh d)) ++ List.replicate (n - ds.length) none
def k4 (d : D) : K4 := ⟨fun _ => d = .non, fun _ => False, fun _ => False, fun d' => d' = d⟩
theorem start_env {K : PySem.W.Frag} {κ : Kap} {Z : Addr → Prop} {H : Hp} {ds : List D} {vs : List V} {N : List Str} (r : Reps κ (hide Z H) ds vs) : EnvR K κ H Z (L2.start N vs) (startE N.length ds) := by
  refine ⟨by simp [startE, L2.start, r.length], fun i sl e => ?_⟩
  unfold startE at e
  unfold L2.start
  by_cases hi : i < ds.length
  · rw [List.getElem?_append_left (by simpa using hi), List.getElem?_map] at e
    rw [List.getElem?_append_left (by simpa [r.length] using hi), List.getElem?_map]
    obtain ⟨d, hd, e1⟩ := Option.map_eq_some_iff.mp e
    cases e1
    obtain ⟨v, hv, rv⟩ := r.get hd
    exact ⟨v, by rw [hv]; rfl, rv⟩
  · rw [List.getElem?_append_right (by simpa using hi), List.getElem?_replicate] at e
    split at e <;> cases e
theorem start_sh {n : Nat} {ds : List D} {i : Nat} {sl : Sl} (e : (startE n ds)[i]? = some (some sl)) : slOwn sl = false := by
  unfold startE at e
  by_cases hi : i < ds.length
  · rw [List.getElem?_append_left (by simpa using hi), List.getElem?_map] at e
    obtain ⟨d, hd, e1⟩ := Option.map_eq_some_iff.mp e
    cases e1; rfl
  · rw [List.getElem?_append_right (by simpa using hi), List.getElem?_replicate] at e
    split at e <;> cases e
section
variable {P : Program} {w : World} {K : PySem.W.Frag} {mg : Str → Option Value} {base : Heap} {κ : Kap} {f : Addr} {fd : FuncData} {x qual : Str} {params : Arguments} {body : List Stmt} {scope : Scope} {N ps : List Str} {k : Nat}
/-- the context of a def's body, nothing raised -/
abbrev cxn (P : Program) (w : World) (K : PySem.W.Frag) (mg : Str → Option Value) (base : Heap) (N : List Str) (qual : Str) (scope : Scope) (f : Addr) (cdv : Value) (A : Around) (outer : List Env) (s : Shared) (H : Hp) (E : XK) : Cx := (cxOf CX0 P w K mg base N qual scope f cdv A outer s H E).nox
theorem kn_cxn {cdv : Value} {A : Around} {outer : List Env} {s : Shared} {H : Hp} {E : XK} (S : FnScope N ps scope) (hr : Room k (A.deeper (PyProof.Rows.envOfC qual scope s.heap.objs.size f cdv))) : Kn (cxn P w K mg base N qual scope f cdv A outer s H E) k := ⟨rfl, S.nd, hr⟩
theorem fn_ok {T : Tt} {Fs : List D → Option D} (F : FunD K x qual params body scope [] [] f fd) (S : FnScope N ps scope) (hT : ∀ ds d, Fs ds = some d → ds.length = ps.length ∧ T (k4 d) (startE N.length ds))
    (hb : ∀ (cdv : Value) (A : Around) (outer : List Env) (s : Shared) (H : Hp) (E : XK), Room k (A.deeper (PyProof.Rows.envOfC qual scope s.heap.objs.size f cdv)) → PSsx κ (cxn P w K mg base N qual scope f cdv A outer s H E) body T) : FnOk P w K mg base CX0 (k + 1) f fd ps (spP κ Fs) := by
  refine F.ok S (fun vs H Q E ⟨Z, ds, z, r, d, hd, q⟩ => by rw [r.length]; exact (hT ds d hd).1) fun cdv A outer s H vs Q E hr ⟨Z, ds, z, r, d, hd, q⟩ => ⟨_, PSs.nox (hb cdv A outer s H E hr), ?_⟩
  refine ⟨H, Z, Z, k4 d, startE N.length ds, ⟨z, start_env r, .refl H, fun _ h => h, fun _ h => .inl h, fun i j a si sj h1 h2 o1 o2 _ _ => ?_, fun i a si h1 o1 _ => ?_⟩, (hT ds d hd).2, ⟨fun Z' σ δ H' S' hn => ?_, fun _ _ _ _ _ h => h.elim, fun _ _ _ _ _ h => h.elim, fun Z' d' v H' z' e f n r' hd' => ?_⟩⟩
  · rw [start_sh h1] at o1; cases o1
  · rw [start_sh h1] at o1; cases o1
  · have hn : d = .non := hn
    subst hn
    exact q .non H' S'.ext rfl
  · have hd' : d' = d := hd'
    subst hd'
    exact q v H' e (Rep.le (le_sub fun a h => f a h) _ _ r')
/-- what __init__ promises: of clean arguments the fields of a new object; nothing else that stood is changed -/
def spInit (κ : Kap) (cc : Nat) (Fi : List D → Option (List (Str × D))) : Sp := fun vs H Q _ => ∃ (Z : Addr → Prop) (ds : List D) (a dx : Addr) (t : List V), vs = .ref a :: t ∧ H a = some (.ins (κ cc) dx []) ∧ ZOk Z H ∧ ¬ Z a ∧ Reps κ (hide (fun b => Z b ∨ b = a) H) ds t ∧
  ∃ fs, Fi ds = some fs ∧ ∀ H' dx' l, (∀ b o, b ≠ a → H b = some o → H' b = some o) → H' a = some (.ins (κ cc) dx' l) → RepF κ (hide (fun b => Z b ∨ b = a) H') fs l → Q .non H'
def startO (n : Nat) (a cc : Nat) (ds : List D) : En := some (.oo a cc []) :: startE (n - 1) ds
def k4o (a cc : Nat) (fs : List (Str × D)) : K4 := ⟨fun δ => δ[0]? = some (some (.oo a cc fs)), fun _ => False, fun _ => False, fun _ => False⟩
theorem init_ok {cc : Nat} {T : Tt} {Fi : List D → Option (List (Str × D))} (F : FunD K x qual params body scope [] [] f fd) (S : FnScope N ps scope) (hT : ∀ ds fs, Fi ds = some fs → ds.length + 1 = ps.length ∧ ∀ a, T (k4o a cc fs) (startO N.length a cc ds)) (hN : N ≠ [])
    (hb : ∀ (cdv : Value) (A : Around) (outer : List Env) (s : Shared) (H : Hp) (E : XK), Room k (A.deeper (PyProof.Rows.envOfC qual scope s.heap.objs.size f cdv)) → PSsx κ (cxn P w K mg base N qual scope f cdv A outer s H E) body T) : FnOk P w K mg base CX0 (k + 1) f fd ps (spInit κ cc Fi) := by
  refine F.ok S (fun vs H Q E ⟨Z, ds, a, dx, t, ev, ha, z, na, r, fs, hd, q⟩ => by rw [ev, List.length_cons, r.length]; exact (hT ds fs hd).1) fun cdv A outer s H vs Q E hr ⟨Z, ds, a, dx, t, ev, ha, z, na, r, fs, hd, q⟩ => ⟨_, PSs.nox (hb cdv A outer s H E hr), ?_⟩
  subst ev
  obtain ⟨n, hn⟩ : ∃ n, N.length = n + 1 := ⟨N.length - 1, by have := List.length_pos_iff.mpr hN; omega⟩
  have es : L2.start N (.ref a :: t) = some (.ref a) :: (t.map some ++ List.replicate (n - t.length) none) := by
    unfold L2.start
    rw [hn]
    simp
  have zz : ZOk (fun b => Z b ∨ b = a) H := fun b hb => hb.elim (z b) fun e => by rw [e]; exact ⟨_, ha, fun xs => nofun⟩
  have E0 : EnvR K κ H (fun b => Z b ∨ b = a) (L2.start N (.ref a :: t)) (startO N.length a cc ds) := by
    rw [es]
    have E1 : EnvR K κ H (fun b => Z b ∨ b = a) (t.map some ++ List.replicate (n - t.length) none) (startE n ds) := by
      have := start_env (K := K) (N := List.replicate n "") r
      unfold L2.start at this
      simpa using this
    refine ⟨by unfold startO; rw [hn]; simp [E1.len], fun i sl e => ?_⟩
    unfold startO at e
    cases i with
    | zero =>
      simp only [List.getElem?_cons_zero, Option.some.injEq] at e
      subst e
      exact ⟨a, dx, [], ⟨rfl, rfl⟩, .inr rfl, ha, rfl⟩
    | succ i =>
      rw [hn] at e
      simp only [List.getElem?_cons_succ] at e ⊢
      exact E1.at_ i sl e
  have own0 : ∀ (i : Nat) (si : Sl), (startO N.length a cc ds)[i]? = some (some si) → slOwn si = true → i = 0 := fun i si e o => by
    cases i with
    | zero => rfl
    | succ i =>
      unfold startO at e
      simp only [List.getElem?_cons_succ] at e
      rw [start_sh e] at o; cases o
  refine ⟨hide (· = a) H, Z, fun b => Z b ∨ b = a, k4o a cc fs, startO N.length a cc ds, ⟨zz, E0, fun b o h => (hide_some.mp h).2, fun _ h => .inl h, fun b h => h.imp id fun e => by unfold hide; rw [if_pos e], fun i j b si sj h1 h2 o1 o2 _ _ => by rw [own0 i si h1 o1, own0 j sj h2 o2], fun i b si h1 o1 e1 => ?_⟩, (hT ds fs hd).2 a, ⟨fun Z' σ δ H' S' hn' => ?_, fun _ _ _ _ _ h => h.elim, fun _ _ _ _ _ h => h.elim, fun Z' d' v H' z' e f n r' hd' => hd'.elim⟩⟩
  · have := own0 i si h1 o1
    subst this
    rw [es] at e1
    cases e1
    exact na
  · have hn' : δ[0]? = some (some (.oo a cc fs)) := hn'
    obtain ⟨a', dx', l, ⟨q1, rfl⟩, za, ins, rf⟩ := S'.env.at_ 0 _ hn'
    refine q H' dx' l (fun b o hb h => S'.ext b o (hide_some.mpr ⟨hb, h⟩)) ins (RepF.le (le_sub fun b h => ?_) _ _ rf)
    rcases h with h | h
    · exact S'.fz b h
    · rw [h]; exact za
end
/-- C(..): a new object -/
theorem X_make {κ : Kap} {X : Cx} {k j cc : Nat} {fad : Addr} {fd : FuncData} {ps : List Str} {x : Str} {e : Expr} {es : List Expr} {g : Sx} {p pos : Pos} {Fi : List D → Option (List (Str × D))} (kn : Kn X k) (M : Mk X.K (κ cc) fad) (Fo : FnOk X.prog X.w X.K X.mg X.base CX0 j fad fd ps (spInit κ cc Fi)) (hj : j + 1 ≤ k) (hm : X.mg x = some (.ref (κ cc))) (hb : Binds X.K fd ps [])
    (hg : Gl X x) (ha : PAx κ X (e :: es) g) (hdb : (x == ("__debug__" : Str)) = false := by decide) (he : starEach (e :: es) X.env = (false, eval e X.env) :: starEach es X.env := by rfl) (hpl : (backTo pos (starEach es X.env)).any (·.1) = false := by rfl) : PX κ X (.Call (.Name x p) (e :: es) [] pos) (fun δ => (g δ).bind fun ds => (Fi ds).map (.obj cc)) :=
  pe_mono (pe_make M Fo (kn.room.mono hj) hg hm hb .nil pass0 ha hdb he hpl) fun σ H Q ⟨δ, Z, z, E, d, hd, q⟩ => by
    obtain ⟨ds, h1, h2⟩ := Option.bind_eq_some_iff.mp hd
    obtain ⟨fs, h3, h4⟩ := Option.map_eq_some_iff.mp h2
    subst h4
    refine ⟨δ, Z, z, E, ds, h1, fun vs H1 e1 r x dx hx hdx ne => ?_⟩
    have z1 := z.ext e1
    have e2 : Ext H1 (upd (upd H1 dx (.own x)) x (.ins (κ cc) dx [])) := (Ext.upd hdx).trans (.upd (by rw [upd_ne (fun w => ne w.symm)]; exact hx))
    have nx : ¬ Z x := z1.fresh hx
    refine ⟨Z, ds, x, dx, vs, by rw [List.append_nil], upd_same, z1.ext e2, nx, ?_, fs, h3, fun H' dx' l st ins rf => ⟨rfl, q _ H' (e1.trans fun b o h => ?_) ⟨x, dx', l, rfl, hide_some.mpr ⟨nx, ins⟩, RepF.le (le_sub fun a h => .inl h) _ _ rf⟩⟩⟩
    · have : Reps κ (hide (fun b => Z b ∨ b = x) H1) ds vs := by rw [hide_add hx]; exact r
      exact Reps.ext e2 this
    · exact st b o (ne_of_none h hx) (e2 b o h)
end BP
namespace BP
open PySem L2
def oSub2 (d e : D) : Option D := match d with
  | .lst _ => oIx d e
  | .tup _ => oIx d e
  | _ => oGet d e
def oPlus (d e : D) : Option D := match d with
  | .int _ => oAdd d e
  | .lst _ => oCat d e
  | .tup _ => oCatT d e
  | _ => none
def sLst (f : Ex) : Sx := fun δ => (f δ).bind fun d => match d with
  | .lst ds => some ds
  | _ => none
def sTups (f : Ex) : Sx := fun δ => (f δ).bind fun d => match d with
  | .tup ds => some ds
  | _ => none
def sEnumA (g : Sx) : Sx := fun δ => (g δ).bind fun d => match d with
  | [.lst ds] => some (enumFrom 0 ds)
  | _ => none
def sRange1 (g : Sx) : Sx := fun δ => (g δ).bind fun d => match d with
  | [.int j] => if 0 ≤ j ∧ j ≤ 100000 then some (upTo 0 j.toNat) else none
  | _ => none
def dKeys (kvs : List (D × D)) : List D := kvs.map (·.1)
def dVals (kvs : List (D × D)) : List D := kvs.map (·.2)
def dItems (kvs : List (D × D)) : List D := kvs.map fun q => .tup [q.1, q.2]
def oMeth (cc : Nat) (m : Str) (F : List D → Option D) (fo : Ex) (g : Sx) : Ex := fun δ => (fo δ).bind fun s => (g δ).bind fun ds => match s with | .obj c' fs => if c' = cc ∧ fs.lookup m = none then F (s :: ds) else none | _ => none
def oMeth0 (cc : Nat) (m : Str) (F : List D → Option D) (fo : Ex) : Ex := fun δ => (fo δ).bind fun s => match s with | .obj c' fs => if c' = cc ∧ fs.lookup m = none then F [s] else none | _ => none
def oMake (cc : Nat) (Fi : List D → Option (List (Str × D))) (g : Sx) : Ex := fun δ => (g δ).bind fun ds => (Fi ds).map (.obj cc)
section
variable {κ : Kap} {X : Cx} {a b c e : Expr} {es : List Expr} {f fa fb fc : Ex} {g gr : Sx} {pos p p2 apos : Pos} {k : Nat}
theorem X_sub2 (kn : Kn X k) (ha : PB κ X a fa) (hb : PX κ X b fb) (hs : PlainIx b := by intro _ _; rfl) (hs2 : NoSl b := by first | exact fun _ _ => rfl | (intro _ _ _; rfl) | (intro _ _; rfl)) : PX κ X (.Subscript a b pos) (x2 oSub2 fa fb) := pe_mono (pe_or (X_ix ha hb hs) (X_get kn ha hb hs2)) fun σ H Q ⟨δ, Z, z, E, d, hd, q⟩ => by
  obtain ⟨x, y, h1, h2, h3⟩ := x2_some hd
  have mk : ∀ g : D → D → Option D, g x y = some d → x2 g fa fb δ = some d := fun g h => by unfold x2; rw [h1, Option.bind_some, h2, Option.bind_some]; exact h
  cases x with
  | lst ds => exact .inl ⟨δ, Z, z, E, d, mk _ h3, q⟩
  | tup ds => exact .inl ⟨δ, Z, z, E, d, mk _ h3, q⟩
  | _ => exact .inr ⟨δ, Z, z, E, d, mk _ h3, q⟩
theorem X_plus (ha : PX κ X a fa) (hb : PX κ X b fb) : PX κ X (.BinOp a .Add b pos) (x2 oPlus fa fb) := pe_mono (pe_or (pe_or (X_add (.of ha) (.of hb)) (X_cat ha hb)) (X_catT ha hb)) fun σ H Q ⟨δ, Z, z, E, d, hd, q⟩ => by
  obtain ⟨x, y, h1, h2, h3⟩ := x2_some hd
  have mk : ∀ g : D → D → Option D, g x y = some d → x2 g fa fb δ = some d := fun g h => by unfold x2; rw [h1, Option.bind_some, h2, Option.bind_some]; exact h
  cases x with
  | int ds => exact .inl (.inl ⟨δ, Z, z, E, d, mk _ h3, q⟩)
  | lst ds => exact .inl (.inr ⟨δ, Z, z, E, d, mk _ h3, q⟩)
  | tup ds => exact .inr ⟨δ, Z, z, E, d, mk _ h3, q⟩
  | _ => cases h3
theorem X_globI {x : Str} {i : Int} (h : ∃ t, X.mg x = some (.int i t)) (hg : Gl X x := by rfl) (hd : (x == ("__debug__" : Str)) = false := by decide) : PX κ X (.Name x pos) (xC (.int i)) := by
  obtain ⟨t, h⟩ := h
  exact X_glob (v := .int i) hg h ⟨t, rfl⟩ (fun _ => rfl) hd
theorem X_globS {x s : Str} (h : ∃ t, X.mg x = some (.str s t)) (hg : Gl X x := by rfl) (hd : (x == ("__debug__" : Str)) = false := by decide) : PX κ X (.Name x pos) (xC (.str s)) := by
  obtain ⟨t, h⟩ := h
  exact X_glob (v := .str s) hg h ⟨t, rfl⟩ (fun _ => rfl) hd
/-- a text in a tuple of texts that is the module's -/
def oNotInG (ts : List Str) (d : D) : Option D := match d with
  | .str s => some (.bl (!decide (s ∈ ts)))
  | _ => none
theorem notInG_of {K : PySem.W.Frag} {ga : Addr} {ts : List Str} (hT : ∀ H, SqT K H ga (ts.map V.str)) {σ : L2.St} {H : Hp} {Q : VK} (h : tPX K κ (x1 (oNotInG ts) fa) σ H Q) : tOp (fun x y H Q => rIn K true x y H Q ∨ (∃ a o, y = .ref a ∧ DGet H a x o ∧ Q (.bl (!o.isSome)) H)) (tPB K κ fa) (tC (.ref ga)) σ H Q := by
  obtain ⟨δ, Z, z, E, d, hd, q⟩ := h
  obtain ⟨y, h1, h2⟩ := Option.bind_eq_some_iff.mp hd
  refine ⟨δ, Z, z, E, y, h1, fun v H' e r => ?_⟩
  cases y <;> simp only [oNotInG] at h2 <;> first | (cases h2; done) | skip
  rename_i s
  cases h2
  refine .inl ⟨ga, ts.map V.str, rfl, .inr (hT H'), by rw [show v = V.str s from r]; rfl, ?_, ?_⟩
  · simp [flatV]
  · have e1 : inV v (ts.map V.str) = decide (s ∈ ts) := by
      have := inV_key (.inr s) (ts.map Sum.inr)
      rw [show v = kV (.inr s) from r]
      simp only [List.map_map] at this
      have e2 : (kV ∘ (Sum.inr : Str → Key)) = V.str := rfl
      rw [e2] at this
      rw [this]
      refine decide_eq_decide.mpr ?_
      simp [keyD, Function.comp]
    rw [e1]
    exact q _ H' e rfl
theorem X_notInG {x : Str} {ga : Addr} {ts : List Str} (kn : Kn X k) (ha : PB κ X a fa) (hm : X.mg x = some (.ref ga)) (hT : ∀ H, SqT X.K H ga (ts.map V.str)) (hg : Gl X x := by rfl) (hd : (x == ("__debug__" : Str)) = false := by decide) (hmk : behindInMarks .NotIn (.Name x p) = false := by first | exact nomark _ | rfl) : PX κ X (.Compare a [.NotIn] [.Name x p] pos) (x1 (oNotInG ts) fa) :=
  pe_mono (pe_cmpR (or_notIn kn) ha (pe_glob (v := .ref ga) hg hm rfl hd) hmk) fun σ H Q h => notInG_of hT h
theorem T_notInG {x : Str} {ga : Addr} {ts : List Str} (kn : Kn X k) (ha : PB κ X a fa) (hm : X.mg x = some (.ref ga)) (hT : ∀ H, SqT X.K H ga (ts.map V.str)) (hg : Gl X x := by rfl) (hd : (x == ("__debug__" : Str)) = false := by decide) (hmk : behindInMarks .NotIn (.Name x p) = false := by first | exact nomark _ | rfl) : PTx κ X (.Compare a [.NotIn] [.Name x p] pos) (tB (x1 (oNotInG ts) fa)) :=
  pt_mono (pt_cmpR (or_notIn kn) ha (pe_glob (v := .ref ga) hg hm rfl hd) hmk) fun σ H Q h => tb_of (fun _ _ _ h => notInG_of hT h) h
def FnK (P : Program) (w : World) (K : PySem.W.Frag) (mg : Str → Option Value) (base : Heap) (κ : Kap) (x : Str) (ps : List Str) (j : Nat) (Fs : List D → Option D) : Prop := ∃ (fad : Addr) (fd : FuncData), FnOk P w K mg base CX0 j fad fd ps (spP κ Fs) ∧ mg x = some (.ref fad) ∧ PySem.W.keepIn K (.ref fad) = true ∧ Binds K fd ps []
def MeK (P : Program) (w : World) (K : PySem.W.Frag) (mg : Str → Option Value) (base : Heap) (κ : Kap) (cc : Nat) (m : Str) (ps : List Str) (j : Nat) (Fs : List D → Option D) : Prop := ∃ (fad : Addr) (fd : FuncData), FnOk P w K mg base CX0 j fad fd ps (spP κ Fs) ∧ Meth K (κ cc) m fad ∧ Binds K fd ps []
def MkK (P : Program) (w : World) (K : PySem.W.Frag) (mg : Str → Option Value) (base : Heap) (κ : Kap) (cc : Nat) (x : Str) (ps : List Str) (j : Nat) (Fi : List D → Option (List (Str × D))) : Prop := ∃ (fad : Addr) (fd : FuncData), FnOk P w K mg base CX0 j fad fd ps (spInit κ cc Fi) ∧ Mk K (κ cc) fad ∧ mg x = some (.ref (κ cc)) ∧ Binds K fd ps []
theorem X_callK {x : Str} {ps : List Str} {F : List D → Option D} {j : Nat} (kn : Kn X k) (h : FnK X.prog X.w X.K X.mg X.base κ x ps j F) (hj : j ≤ k) (ha : PAx κ X (e :: es) g) (hg : Gl X x := by rfl) (hdb : (x == ("__debug__" : Str)) = false := by decide) (he : starEach (e :: es) X.env = (false, eval e X.env) :: starEach es X.env := by rfl) (hpl : (backTo pos (starEach es X.env)).any (·.1) = false := by rfl) : PX κ X (.Call (.Name x p) (e :: es) [] pos) (xL F g) := by
  obtain ⟨fad, fd, Fo, hm, hk, hb⟩ := h
  exact X_call kn Fo hj hm hk hb hg ha hdb he hpl
theorem X_methK {pl : Sem Bool} {m : Str} {cc : Nat} {ps : List Str} {F : List D → Option D} {j : Nat} {o : Expr} {fo : Ex} (kn : Kn X k) (hC : Cls X.K (κ cc)) (h : MeK X.prog X.w X.K X.mg X.base κ cc m ps j F) (hj : j ≤ k) (ho : PX κ X o fo) (ha : PAx κ X (e :: es) g) (hst : starEach (e :: es) X.env = (false, eval e X.env) :: starEach es X.env := by rfl) (hpl : (backTo pos (starEach es X.env)).any (·.1) = false := by rfl)
    (ht : eval (.Call (.Attribute o m apos) (e :: es) [] pos) X.env = (do
      let ov ← eval o X.env
      standAt apos.atName
      let (f, first) ← holding [ov] (getMethod ov m pl)
      callWith pos f first (backTo pos (starEach (e :: es) X.env)) (backToKw pos (keywordEach [] X.env))) := by rfl) : PX κ X (.Call (.Attribute o m apos) (e :: es) [] pos) (oMeth cc m F fo g) := by
  obtain ⟨fad, fd, Fo, hM, hb⟩ := h
  exact X_meth kn Fo hj hC hM hb ho ha hst hpl ht
theorem X_methOK (i : Nat) {pl : Sem Bool} {m x : Str} {cc : Nat} {ps : List Str} {F : List D → Option D} {j : Nat} {p1 : Pos} (kn : Kn X k) (hC : Cls X.K (κ cc)) (h : MeK X.prog X.w X.K X.mg X.base κ cc m ps j F) (hj : j ≤ k) (ha : PAx κ X (e :: es) g) (hN : X.N[i]? = some x := by rfl) (hv : Vis X.env.scope x := by first | exact Or.inl rfl | exact Or.inr (Or.inl rfl) | exact Or.inr (Or.inr rfl)) (hd : (x == ("__debug__" : Str)) = false := by decide) (hcd : (x == ("__classdict__" : Str)) = false := by decide)
    (hst : starEach (e :: es) X.env = (false, eval e X.env) :: starEach es X.env := by rfl) (hpl : (backTo pos (starEach es X.env)).any (·.1) = false := by rfl)
    (ht : eval (.Call (.Attribute (.Name x p1) m apos) (e :: es) [] pos) X.env = (do
      let ov ← eval (.Name x p1) X.env
      standAt apos.atName
      let (f, first) ← holding [ov] (getMethod ov m pl)
      callWith pos f first (backTo pos (starEach (e :: es) X.env)) (backToKw pos (keywordEach [] X.env))) := by rfl) : PX κ X (.Call (.Attribute (.Name x p1) m apos) (e :: es) [] pos) (xMethO i cc m F g) := by
  obtain ⟨fad, fd, Fo, hM, hb⟩ := h
  exact X_methO i kn Fo hj hC hM hb ha hN hv hd hcd hst hpl ht
theorem X_makeK {cc j : Nat} {ps : List Str} {x : Str} {Fi : List D → Option (List (Str × D))} (kn : Kn X k) (h : MkK X.prog X.w X.K X.mg X.base κ cc x ps j Fi) (hj : j + 1 ≤ k) (ha : PAx κ X (e :: es) g) (hg : Gl X x := by rfl) (hdb : (x == ("__debug__" : Str)) = false := by decide) (he : starEach (e :: es) X.env = (false, eval e X.env) :: starEach es X.env := by rfl) (hpl : (backTo pos (starEach es X.env)).any (·.1) = false := by rfl) : PX κ X (.Call (.Name x p) (e :: es) [] pos) (oMake cc Fi g) := by
  obtain ⟨fad, fd, Fo, M, hm, hb⟩ := h
  exact X_make kn M Fo hj hm hb hg ha hdb he hpl
theorem FnK.of {P : Program} {w : World} {K : PySem.W.Frag} {mg : Str → Option Value} {base : Heap} {x : Str} {ps : List Str} {j : Nat} {Fs : List D → Option D} {fad : Addr} {fd : FuncData} (F : FnOk P w K mg base CX0 j fad fd ps (spP κ Fs)) (hm : mg x = some (.ref fad)) (hk : PySem.W.keepIn K (.ref fad) = true) (hb : Binds K fd ps []) : FnK P w K mg base κ x ps j Fs := ⟨fad, fd, F, hm, hk, hb⟩
/-- (a, b) = (x, y), one of the names not a plain local: by way of the pair -/
theorem S_tup2 (i j : Nat) {x y : Str} {px py pt : Pos} {kt k2 pt2} {ns : En → Option (List Sl)} (kn : Kn X k) (ha : PANx κ X [a, b] ns) (hi : X.N[i]? = some x := by rfl) (hj : X.N[j]? = some y := by rfl) (hij : i ≠ j := by decide) (hx : Loc X.env.scope x := by first | exact Or.inl rfl | exact Or.inr rfl) (hy : Loc X.env.scope y := by first | exact Or.inl rfl | exact Or.inr rfl)
    (hfx : X.fn x = true ∨ X.env.scope.names.lookup x = some .local := by first | exact .inl rfl | exact .inr rfl | assumption) (hfy : X.fn y = true ∨ X.env.scope.names.lookup y = some .local := by first | exact .inl rfl | exact .inr rfl | assumption)
    (hs : swapsWithSole [.Tuple [.Name x px, .Name y py] kt pt] (.Tuple [a, b] k2 pt2) pos.line X.env = pure false := by rfl) (hw : swappedStores [.Tuple [.Name x px, .Name y py] kt pt] (.Tuple [a, b] k2 pt2) X.env = pure none := by rfl) : PSx κ X (.Assign [.Tuple [.Name x px, .Name y py] kt pt] (.Tuple [a, b] k2 pt2) pos) (sPar2 i j ns) :=
  ps_mono (ps_asg (pe_tup ha) (pg_tup kn.calm (pgs_cons (pg_name kn.nd hi hx hfx) (pgs_cons (pg_name kn.nd hj hy hfy) pgs_nil))) hs hw) fun D σ H ⟨H₀, F, Z, C, δ, S, ⟨s, t, h1, h2⟩, E⟩ => ⟨δ, Z, S.z, S.env, _, h1, fun vs H' Z' e g z nw => by
    have nw0 := nw
    obtain ⟨v, t', rfl, _, _, w, t2, rfl, _, _, rfl⟩ := nw
    refine ⟨by rw [sizeLine_eq]; simp, fun p hp => ⟨p, [v, w], rfl, SqT.of upd_same, rfl, v, [w], rfl, w, [], rfl, rfl, ?_⟩⟩
    exact E.nx _ _ _ _ ((S.put2 e g z hij nw0).ext' (.upd hp)) h2⟩
theorem X_lcKeys {elt e0 : Expr} {tg : Expr} {ifs : List Expr} {scope : Scope} {own : List (Str × Nat)} {Pk : L2.St → Hp → V → Prop} {g : Gx} {ss : List Nat} {pt : Tx} {f0 : Ex} (kn : Kn X k) (pk : PEk κ X e0 f0 Pk) (ok : BlkOk X.N X.env.scope scope own)
    (hg : ∀ (s : Shared) (H : Hp) (C : Addr) (cl : List (Str × Addr)) (fp : List Addr), PGx κ (X.blk s H scope (compEnvC scope cl C X.env) fp) tg g ss) (ht : ∀ (s : Shared) (H : Hp) (C : Addr) (cl : List (Str × Addr)) (fp : List Addr), PTsx κ (X.blk s H scope (compEnvC scope cl C X.env) fp) ifs pt)
    (he : ∀ (s : Shared) (H : Hp) (C : Addr) (cl : List (Str × Addr)) (fp : List Addr), PX κ (X.blk s H scope (compEnvC scope cl C X.env) fp) elt f) (hss : ∀ i ∈ ss, i ∈ own.map (·.2) := by decide) (hs : ∀ x, foldedSetIterable e0 X.env x = pure x := by intro _; rfl) :
    PX κ X (.ListComp elt [⟨tg, e0, ifs, 0⟩] scope pos) (xLc (sDct f0 dKeys) (own.map (·.2)) g pt f) := X_lcD kn pk (I_keys pk) ok hg ht he hss hs
theorem S_setLcKeys (i : Nat) {y : Str} {py spos : Pos} {elt e0 : Expr} {tg : Expr} {ifs : List Expr} {scope : Scope} {own : List (Str × Nat)} {Pk : L2.St → Hp → V → Prop} {g : Gx} {ss : List Nat} {pt : Tx} {f0 : Ex} (kn : Kn X k) (pk : PEk κ X e0 f0 Pk) (ok : BlkOk X.N X.env.scope scope own)
    (hg : ∀ (s : Shared) (H : Hp) (C : Addr) (cl : List (Str × Addr)) (fp : List Addr), PGx κ (X.blk s H scope (compEnvC scope cl C X.env) fp) tg g ss) (ht : ∀ (s : Shared) (H : Hp) (C : Addr) (cl : List (Str × Addr)) (fp : List Addr), PTsx κ (X.blk s H scope (compEnvC scope cl C X.env) fp) ifs pt)
    (he : ∀ (s : Shared) (H : Hp) (C : Addr) (cl : List (Str × Addr)) (fp : List Addr), PX κ (X.blk s H scope (compEnvC scope cl C X.env) fp) elt f) (hss : ∀ i ∈ ss, i ∈ own.map (·.2) := by decide) (hs : ∀ x, foldedSetIterable e0 X.env x = pure x := by intro _; rfl)
    (hy : X.N[i]? = some y := by rfl) (hyl : X.env.scope.names.lookup y = some .local := by rfl) (hsw : swapsWith (.ListComp elt [⟨tg, e0, ifs, 0⟩] scope pos) (some (.Name y py)) spos.line X.env = pure true := by rfl) :
    PSx κ X (.Assign [.Name y py] (.ListComp elt [⟨tg, e0, ifs, 0⟩] scope pos) spos) (sSet i (nSh (xLc (sDct f0 dKeys) (own.map (·.2)) g pt f))) := S_setLcD i kn pk (I_keys pk) ok hg ht he hss hs hy hyl hsw
theorem X_lcItems {elt e0 : Expr} {t1 t2 : Expr} {jj : Nat} {p3 : Pos} {ifs : List Expr} {scope : Scope} {own : List (Str × Nat)} {Pk : L2.St → Hp → V → Prop} {g : Gx} {ss : List Nat} {pt : Tx} {f0 : Ex} (kn : Kn X k) (pk : PEk κ X e0 f0 Pk) (ok : BlkOk X.N X.env.scope scope own)
    (hg : ∀ (s : Shared) (H : Hp) (C : Addr) (cl : List (Str × Addr)) (fp : List Addr), PGx κ (X.blk s H scope (compEnvC scope cl C X.env) fp) (.Tuple [t1, t2] jj p2) g ss) (ht : ∀ (s : Shared) (H : Hp) (C : Addr) (cl : List (Str × Addr)) (fp : List Addr), PTsx κ (X.blk s H scope (compEnvC scope cl C X.env) fp) ifs pt)
    (he : ∀ (s : Shared) (H : Hp) (C : Addr) (cl : List (Str × Addr)) (fp : List Addr), PX κ (X.blk s H scope (compEnvC scope cl C X.env) fp) elt f) (hss : ∀ i ∈ ss, i ∈ own.map (·.2) := by decide) (hs : ∀ x, foldedSetIterable (.Call (.Attribute e0 "items" apos) [] [] p3) X.env x = pure x := by intro _; rfl) (hbase : attributeBase e0 "items" X.env (eval e0 X.env) = eval e0 X.env := by rfl) (hline : (apos.endLine == p3.line) = true := by rfl) :
    PX κ X (.ListComp elt [⟨(.Tuple [t1, t2] jj p2), (.Call (.Attribute e0 "items" apos) [] [] p3), ifs, 0⟩] scope pos) (xLc (sDct f0 dItems) (own.map (·.2)) g pt f) := X_lcD kn pk (I_items pk hbase hline) ok hg ht he hss hs
theorem S_setLcItems (i : Nat) {y : Str} {py spos : Pos} {elt e0 : Expr} {t1 t2 : Expr} {jj : Nat} {p3 : Pos} {ifs : List Expr} {scope : Scope} {own : List (Str × Nat)} {Pk : L2.St → Hp → V → Prop} {g : Gx} {ss : List Nat} {pt : Tx} {f0 : Ex} (kn : Kn X k) (pk : PEk κ X e0 f0 Pk) (ok : BlkOk X.N X.env.scope scope own)
    (hg : ∀ (s : Shared) (H : Hp) (C : Addr) (cl : List (Str × Addr)) (fp : List Addr), PGx κ (X.blk s H scope (compEnvC scope cl C X.env) fp) (.Tuple [t1, t2] jj p2) g ss) (ht : ∀ (s : Shared) (H : Hp) (C : Addr) (cl : List (Str × Addr)) (fp : List Addr), PTsx κ (X.blk s H scope (compEnvC scope cl C X.env) fp) ifs pt)
    (he : ∀ (s : Shared) (H : Hp) (C : Addr) (cl : List (Str × Addr)) (fp : List Addr), PX κ (X.blk s H scope (compEnvC scope cl C X.env) fp) elt f) (hss : ∀ i ∈ ss, i ∈ own.map (·.2) := by decide) (hs : ∀ x, foldedSetIterable (.Call (.Attribute e0 "items" apos) [] [] p3) X.env x = pure x := by intro _; rfl) (hbase : attributeBase e0 "items" X.env (eval e0 X.env) = eval e0 X.env := by rfl) (hline : (apos.endLine == p3.line) = true := by rfl)
    (hy : X.N[i]? = some y := by rfl) (hyl : X.env.scope.names.lookup y = some .local := by rfl) (hsw : swapsWith (.ListComp elt [⟨(.Tuple [t1, t2] jj p2), (.Call (.Attribute e0 "items" apos) [] [] p3), ifs, 0⟩] scope pos) (some (.Name y py)) spos.line X.env = pure true := by rfl) :
    PSx κ X (.Assign [.Name y py] (.ListComp elt [⟨(.Tuple [t1, t2] jj p2), (.Call (.Attribute e0 "items" apos) [] [] p3), ifs, 0⟩] scope pos) spos) (sSet i (nSh (xLc (sDct f0 dItems) (own.map (·.2)) g pt f))) := S_setLcD i kn pk (I_items pk hbase hline) ok hg ht he hss hs hy hyl hsw
theorem X_lcVals {elt e0 : Expr} {tg : Expr} {p3 : Pos} {ifs : List Expr} {scope : Scope} {own : List (Str × Nat)} {Pk : L2.St → Hp → V → Prop} {g : Gx} {ss : List Nat} {pt : Tx} {f0 : Ex} (kn : Kn X k) (pk : PEk κ X e0 f0 Pk) (ok : BlkOk X.N X.env.scope scope own)
    (hg : ∀ (s : Shared) (H : Hp) (C : Addr) (cl : List (Str × Addr)) (fp : List Addr), PGx κ (X.blk s H scope (compEnvC scope cl C X.env) fp) tg g ss) (ht : ∀ (s : Shared) (H : Hp) (C : Addr) (cl : List (Str × Addr)) (fp : List Addr), PTsx κ (X.blk s H scope (compEnvC scope cl C X.env) fp) ifs pt)
    (he : ∀ (s : Shared) (H : Hp) (C : Addr) (cl : List (Str × Addr)) (fp : List Addr), PX κ (X.blk s H scope (compEnvC scope cl C X.env) fp) elt f) (hss : ∀ i ∈ ss, i ∈ own.map (·.2) := by decide) (hs : ∀ x, foldedSetIterable (.Call (.Attribute e0 "values" apos) [] [] p3) X.env x = pure x := by intro _; rfl) (hbase : attributeBase e0 "values" X.env (eval e0 X.env) = eval e0 X.env := by rfl) (hline : (apos.endLine == p3.line) = true := by rfl) :
    PX κ X (.ListComp elt [⟨tg, (.Call (.Attribute e0 "values" apos) [] [] p3), ifs, 0⟩] scope pos) (xLc (sDct f0 dVals) (own.map (·.2)) g pt f) := X_lcD kn pk (I_vals pk hbase hline) ok hg ht he hss hs
theorem S_setLcVals (i : Nat) {y : Str} {py spos : Pos} {elt e0 : Expr} {tg : Expr} {p3 : Pos} {ifs : List Expr} {scope : Scope} {own : List (Str × Nat)} {Pk : L2.St → Hp → V → Prop} {g : Gx} {ss : List Nat} {pt : Tx} {f0 : Ex} (kn : Kn X k) (pk : PEk κ X e0 f0 Pk) (ok : BlkOk X.N X.env.scope scope own)
    (hg : ∀ (s : Shared) (H : Hp) (C : Addr) (cl : List (Str × Addr)) (fp : List Addr), PGx κ (X.blk s H scope (compEnvC scope cl C X.env) fp) tg g ss) (ht : ∀ (s : Shared) (H : Hp) (C : Addr) (cl : List (Str × Addr)) (fp : List Addr), PTsx κ (X.blk s H scope (compEnvC scope cl C X.env) fp) ifs pt)
    (he : ∀ (s : Shared) (H : Hp) (C : Addr) (cl : List (Str × Addr)) (fp : List Addr), PX κ (X.blk s H scope (compEnvC scope cl C X.env) fp) elt f) (hss : ∀ i ∈ ss, i ∈ own.map (·.2) := by decide) (hs : ∀ x, foldedSetIterable (.Call (.Attribute e0 "values" apos) [] [] p3) X.env x = pure x := by intro _; rfl) (hbase : attributeBase e0 "values" X.env (eval e0 X.env) = eval e0 X.env := by rfl) (hline : (apos.endLine == p3.line) = true := by rfl)
    (hy : X.N[i]? = some y := by rfl) (hyl : X.env.scope.names.lookup y = some .local := by rfl) (hsw : swapsWith (.ListComp elt [⟨tg, (.Call (.Attribute e0 "values" apos) [] [] p3), ifs, 0⟩] scope pos) (some (.Name y py)) spos.line X.env = pure true := by rfl) :
    PSx κ X (.Assign [.Name y py] (.ListComp elt [⟨tg, (.Call (.Attribute e0 "values" apos) [] [] p3), ifs, 0⟩] scope pos) spos) (sSet i (nSh (xLc (sDct f0 dVals) (own.map (·.2)) g pt f))) := S_setLcD i kn pk (I_vals pk hbase hline) ok hg ht he hss hs hy hyl hsw
theorem X_dc2Keys (bb : Bool) {kx vx tg tg1 iter1 e0 : Expr} {scope : Scope} {own : List (Str × Nat)} {Pk : L2.St → Hp → V → Prop} {src1 : Sx} {f0 fk fv : Ex} {g g1 : Gx} {ss ss1 w1 : List Nat} (kn : Kn X k) (pk : PEk κ X e0 f0 Pk) (ok : BlkOk X.N X.env.scope scope own)
    (hg : ∀ (s : Shared) (H : Hp) (C : Addr) (cl : List (Str × Addr)) (fp : List Addr), PGx κ (X.blk s H scope (compEnvC scope cl C X.env) fp) tg g ss)
    (hi1 : ∀ (s : Shared) (H : Hp) (C : Addr) (cl : List (Str × Addr)) (fp : List Addr), PIx κ (X.blk s H scope (compEnvC scope cl C X.env) fp) tg1 iter1 true src1)
    (hg1 : ∀ (s : Shared) (H : Hp) (C : Addr) (cl : List (Str × Addr)) (fp : List Addr), PGx κ (X.blk s H scope (compEnvC scope cl C X.env) fp) tg1 g1 ss1)
    (hk : ∀ (s : Shared) (H : Hp) (C : Addr) (cl : List (Str × Addr)) (fp : List Addr), PX κ (X.blk s H scope (compEnvC scope cl C X.env) fp) kx fk) (he : ∀ (s : Shared) (H : Hp) (C : Addr) (cl : List (Str × Addr)) (fp : List Addr), PX κ (X.blk s H scope (compEnvC scope cl C X.env) fp) vx fv)
    (hss : ∀ i ∈ ss, i ∈ own.map (·.2) := by decide) (hss1 : ∀ i ∈ ss1, i ∈ w1 := by decide) (hw : ∀ i ∈ w1, i ∈ own.map (·.2) := by decide) (hs : ∀ x, foldedSetIterable e0 X.env x = pure x := by intro _; rfl) (hs1 : ∀ env x, foldedSetIterable iter1 env x = pure x := by intro _ _; rfl) :
    PX κ X (dc2 kx vx tg e0 tg1 iter1 scope pos) (xDc2 bb (sDct f0 dKeys) (own.map (·.2)) g src1 w1 g1 fk fv) := X_dc2D bb kn pk (I_keys pk) ok hg hi1 hg1 hk he hss hss1 hw hs hs1
theorem X_fldK {cc : Nat} {n : Str} {K : PySem.W.Frag} (he : PB κ X e f) (hC : Cls K (κ cc)) (hn : NoAttr K (κ cc) n) (hK : X.K = K := by rfl) (hb : attributeBase e n X.env (eval e X.env) = eval e X.env := by rfl) : PX κ X (.Attribute e n pos) (x1 (oFldC cc n) f) := by
  subst hK
  exact X_fld hC hn he hb
end
end BP
namespace BP
open PySem PySem.Spec L2
mutual
def NKV (H : Hp) : NestedKey → V → Prop
  | .none, v => v = .non
  | .num i, v => v = .int i
  | .text s, v => v = .str s
  | .tup ks, v => ∃ p vs, v = .ref p ∧ H p = some (.tup vs) ∧ NKVs H ks vs
def NKVs (H : Hp) : List NestedKey → List V → Prop
  | [], vs => vs = []
  | k :: r, vs => ∃ v t, vs = v :: t ∧ NKV H k v ∧ NKVs H r t
end
mutual
theorem nkv_is {P : Program} {w : World} {H : Hp} {h : Heap} (ok : HOk P w H h) : ∀ (k : NestedKey) (v : V) (u : Value), NKV H k v → RelV v u → NestedIs h k u
  | .none, v, u, e, r => by
    have e : v = .non := e
    subst e
    have r : u = .none := r
    subst r
    exact .none
  | .num i, v, u, e, r => by
    have e : v = .int i := e
    subst e
    obtain ⟨t, rfl⟩ := r
    exact .int i t
  | .text s, v, u, e, r => by
    have e : v = .str s := e
    subst e
    obtain ⟨t, rfl⟩ := r
    exact .text s t
  | .tup ks, v, u, ⟨p, vs, e, hp, hs⟩, r => by
    subst e
    have r : u = .ref p := r
    subst r
    obtain ⟨_, its, rel, o, ho, hc, n, hd⟩ := ok p _ hp
    exact .tup ho hc hd (by simpa using nkvs_is ok ks vs its hs rel)
theorem nkvs_is {P : Program} {w : World} {H : Hp} {h : Heap} (ok : HOk P w H h) : ∀ (k : List NestedKey) (v : List V) (u : List Value), NKVs H k v → Vals v u → NestedAll h k u
  | [], v, u, e, r => by
    have e : v = [] := e
    subst e
    cases r
    exact .nil
  | k :: ks, v, u, ⟨x, t, e, h1, h2⟩, r => by
    subst e
    cases r with
    | cons a b => exact .cons (nkv_is ok k x _ h1 a) (nkvs_is ok ks t _ h2 b)
end
section
variable {κ : Kap}
mutual
theorem rep_nkv {H : Hp} : ∀ (d : D) (k : NestedKey) (v : V), nkD d = some k → Rep κ H d v → NKV H k v
  | .int i, k, v, e, r => by cases e; exact r
  | .str s, k, v, e, r => by cases e; exact r
  | .tup ds, k, v, e, ⟨p, vs, hv, hp, hr⟩ => by
    obtain ⟨ks, h1, h2⟩ := Option.map_eq_some_iff.mp (show (nkDs ds).map NestedKey.tup = some k from e)
    subst h2
    exact ⟨p, vs, hv, hp, reps_nkv ds ks vs h1 hr⟩
  | .non, k, v, e, r => nomatch (show (none : Option NestedKey) = some k from e)
  | .bl _, k, v, e, r => nomatch (show (none : Option NestedKey) = some k from e)
  | .lst _, k, v, e, r => nomatch (show (none : Option NestedKey) = some k from e)
  | .dct _, k, v, e, r => nomatch (show (none : Option NestedKey) = some k from e)
  | .dtt _, k, v, e, r => nomatch (show (none : Option NestedKey) = some k from e)
  | .obj _ _, k, v, e, r => nomatch (show (none : Option NestedKey) = some k from e)
theorem reps_nkv {H : Hp} : ∀ (d : List D) (k : List NestedKey) (v : List V), nkDs d = some k → Reps κ H d v → NKVs H k v
  | [], k, v, e, r => by cases e; exact r
  | d :: ds, k, v, e, ⟨x, t, hv, h1, h2⟩ => by
    obtain ⟨a, e1, e2⟩ := Option.bind_eq_some_iff.mp (show (nkD d).bind (fun a => (nkDs ds).map (a :: ·)) = some k from e)
    obtain ⟨b, e3, e4⟩ := Option.map_eq_some_iff.mp e2
    subst e4
    exact ⟨x, t, hv, rep_nkv d a x e1 h1, reps_nkv ds b t e3 h2⟩
end
end
mutual
theorem nkD_inj : ∀ (a b : D) (k : NestedKey), nkD a = some k → nkD b = some k → a = b
  | .int i, b, k, e, f => by
    cases e
    cases b <;> first | (cases f; rfl) | (simp [nkD] at f)
  | .str s, b, k, e, f => by
    cases e
    cases b <;> first | (cases f; rfl) | (simp [nkD] at f)
  | .tup ds, b, k, e, f => by
    obtain ⟨ks, h1, h2⟩ := Option.map_eq_some_iff.mp (show (nkDs ds).map NestedKey.tup = some k from e)
    subst h2
    cases b with
    | tup es =>
      obtain ⟨ks', h3, h4⟩ := Option.map_eq_some_iff.mp (show (nkDs es).map NestedKey.tup = some (.tup ks) from f)
      injection h4 with h4
      subst h4
      rw [nkDs_inj ds es _ h1 h3]
    | _ => simp [nkD] at f
  | .non, b, k, e, f => nomatch (show (none : Option NestedKey) = some k from e)
  | .bl _, b, k, e, f => nomatch (show (none : Option NestedKey) = some k from e)
  | .lst _, b, k, e, f => nomatch (show (none : Option NestedKey) = some k from e)
  | .dct _, b, k, e, f => nomatch (show (none : Option NestedKey) = some k from e)
  | .dtt _, b, k, e, f => nomatch (show (none : Option NestedKey) = some k from e)
  | .obj _ _, b, k, e, f => nomatch (show (none : Option NestedKey) = some k from e)
theorem nkDs_inj : ∀ (a b : List D) (k : List NestedKey), nkDs a = some k → nkDs b = some k → a = b
  | [], b, k, e, f => by
    cases e
    cases b with
    | nil => rfl
    | cons d ds =>
      obtain ⟨a, e1, e2⟩ := Option.bind_eq_some_iff.mp (show (nkD d).bind (fun a => (nkDs ds).map (a :: ·)) = some [] from f)
      obtain ⟨b, e3, e4⟩ := Option.map_eq_some_iff.mp e2
      cases e4
  | d :: ds, b, k, e, f => by
    obtain ⟨a, e1, e2⟩ := Option.bind_eq_some_iff.mp (show (nkD d).bind (fun a => (nkDs ds).map (a :: ·)) = some k from e)
    obtain ⟨r, e3, e4⟩ := Option.map_eq_some_iff.mp e2
    subst e4
    cases b with
    | nil => cases f
    | cons d' ds' =>
      obtain ⟨a', e1', e2'⟩ := Option.bind_eq_some_iff.mp (show (nkD d').bind (fun a => (nkDs ds').map (a :: ·)) = some (a :: r) from f)
      obtain ⟨r', e3', e4'⟩ := Option.map_eq_some_iff.mp e2'
      injection e4' with h5 h6
      subst h5 h6
      rw [nkD_inj d d' _ e1 e1', nkDs_inj ds ds' _ e3 e3']
end
section
variable {κ : Kap} {H : Hp}
theorem repN_look {k : D} {nk : NestedKey} (hk : nkD k = some nk) : ∀ {kvs : List (D × D)} {l : List (NestedKey × Addr × Value)}, RepN κ H kvs l → (dLook k kvs).isSome = (atKey l nk).isSome ∧ ∀ d, dLook k kvs = some d → ∃ ka u v, atKey l nk = some (ka, u) ∧ RelV v u ∧ Rep κ H d v
  | [], l, h => by
    have h : l = [] := h
    subst h
    exact ⟨rfl, fun d e => nomatch (show (none : Option D) = some d from e)⟩
  | (k0, d0) :: r, l, ⟨nk0, ka, u, v, t, e, h1, h2, h3, h4, h5⟩ => by
    subst e
    obtain ⟨i1, i2⟩ := repN_look hk h5
    by_cases he : nk0 = nk
    · subst he
      have : k0 = k := nkD_inj _ _ _ h1 hk
      subst this
      simp only [dLook, if_pos]
      have ha : atKey ((nk0, ka, u) :: t) nk0 = some (ka, u) := by simp [atKey]
      rw [ha]
      refine ⟨rfl, fun d ed => ?_⟩
      cases ed
      exact ⟨ka, u, v, rfl, h3, h4⟩
    · have hne : k0 ≠ k := fun q => he (by rw [q, hk] at h1; exact (Option.some.inj h1).symm)
      simp only [dLook, if_neg hne]
      have ha : atKey ((nk0, ka, u) :: t) nk = atKey t nk := by simp [atKey, he]
      rw [ha]
      exact ⟨i1, i2⟩
theorem look_any {k : D} : ∀ {kvs : List (D × D)}, (kvs.any fun p => decide (p.1 = k)) = (dLook k kvs).isSome
  | [] => rfl
  | (a, x) :: r => by
    rw [List.any_cons, look_any (kvs := r)]
    by_cases h : a = k
    · simp [dLook, h]
    · simp [dLook, h]
theorem repN_map {k d : D} {nk : NestedKey} {v : V} {u : Value} (hk : nkD k = some nk) (rv : RelV v u) (rd : Rep κ H d v) : ∀ {kvs : List (D × D)} {l : List (NestedKey × Addr × Value)}, RepN κ H kvs l → RepN κ H (kvs.map fun p => if p.1 = k then (p.1, d) else p) (l.map (putAt nk u))
  | [], l, h => by
    have h : l = [] := h
    subst h
    rfl
  | (k0, d0) :: r, l, ⟨nk0, ka, u0, v0, t, e, h1, h2, h3, h4, h5⟩ => by
    subst e
    rw [List.map_cons, List.map_cons]
    by_cases he : nk0 = nk
    · subst he
      have : k0 = k := nkD_inj _ _ _ h1 hk
      subst this
      rw [if_pos rfl]
      exact ⟨nk0, ka, u, v, _, by simp [putAt], h1, h2, rv, rd, repN_map hk rv rd h5⟩
    · have hne : k0 ≠ k := fun q => he (by rw [q, hk] at h1; exact (Option.some.inj h1).symm)
      rw [if_neg hne]
      exact ⟨nk0, ka, u0, v0, _, by simp [putAt, he], h1, h2, h3, h4, repN_map hk rv rd h5⟩
theorem repN_app {k d : D} {nk : NestedKey} {ka : Addr} {v : V} {u : Value} (hk : nkD k = some nk) (rk : Rep κ H k (.ref ka)) (rv : RelV v u) (rd : Rep κ H d v) : ∀ {kvs : List (D × D)} {l : List (NestedKey × Addr × Value)}, RepN κ H kvs l → RepN κ H (kvs ++ [(k, d)]) (l ++ [(nk, ka, u)])
  | [], l, h => by
    have h : l = [] := h
    subst h
    exact ⟨nk, ka, u, v, [], rfl, hk, rk, rv, rd, rfl⟩
  | (k0, d0) :: r, l, ⟨nk0, ka0, u0, v0, t, e, h1, h2, h3, h4, h5⟩ => by
    subst e
    exact ⟨nk0, ka0, u0, v0, _, rfl, h1, h2, h3, h4, repN_app hk rk rv rd h5⟩
theorem repN_put {k d : D} {nk : NestedKey} {ka : Addr} {v : V} {u : Value} (hk : nkD k = some nk) (rk : Rep κ H k (.ref ka)) (rv : RelV v u) (rd : Rep κ H d v) {kvs : List (D × D)} {l : List (NestedKey × Addr × Value)} (h : RepN κ H kvs l) : RepN κ H (dPut k d kvs) (storedH l nk ka u) := by
  unfold dPut storedH
  rw [look_any, (repN_look hk h).1]
  split
  · exact repN_map hk rv rd h
  · exact repN_app hk rk rv rd h
theorem repN_len : ∀ {kvs : List (D × D)} {l : List (NestedKey × Addr × Value)}, RepN κ H kvs l → l.length = kvs.length
  | [], l, h => by
    have h : l = [] := h
    subst h
    rfl
  | (k0, d0) :: r, l, ⟨nk0, ka0, u0, v0, t, e, h1, h2, h3, h4, h5⟩ => by
    subst e
    simp [repN_len h5]
theorem repN_keys : ∀ {kvs : List (D × D)} {l : List (NestedKey × Addr × Value)}, RepN κ H kvs l → ∀ x ∈ l, NKV H x.1 (.ref x.2.1)
  | [], l, h, x, hx => by
    have h : l = [] := h
    subst h
    cases hx
  | (k0, d0) :: r, l, ⟨nk0, ka0, u0, v0, t, e, h1, h2, h3, h4, h5⟩, x, hx => by
    subst e
    rcases List.mem_cons.mp hx with rfl | hx
    · exact rep_nkv _ _ _ h1 h2
    · exact repN_keys h5 x hx
end
section
variable {X : Cx} {pins : List (Addr × Obj)} {σ : L2.St} {H : Hp} {s : Shared}
theorem dn_get {a : Addr} {l : List (NestedKey × Addr × Value)} (I : Inv X pins σ H s) (ha : H a = some (DN X.w a l)) (hk : ∀ x ∈ l, NKV H x.1 (.ref x.2.1)) : (a == sysModules) = false ∧ l.length ≤ sizeLine ∧ (∀ x ∈ l, x.1.depth ≤ 8) ∧ s.heap.DictOfH (nestedKind X.prog X.w) a l := by
  obtain ⟨⟨h1, h2, h3, h4, o, es, ep, ho, hx, hd, he⟩, _, _⟩ := I.hok a _ ha
  exact ⟨h1, h2, h4, o, es, ep, ho, hx, hd, he, fun x hx => ⟨nkv_is I.hok _ _ _ (hk x hx) rfl, h4 x hx⟩, h3⟩
theorem dn_new {P : Program} {w : World} {H : Hp} {h : Heap} {a : Addr} {l : List (NestedKey × Addr × Value)} (h1 : (a == sysModules) = false) (h2 : l.length ≤ sizeLine) (h4 : ∀ x ∈ l, x.1.depth ≤ 8) (hm : h.DictOfH (nestedKind P w) a l) : ObjOk P w H h a (DN w a l) := by
  obtain ⟨o, es, ep, ho, hx, hd, he, _, h3⟩ := hm
  exact ⟨⟨h1, h2, h3, h4, o, es, ep, ho, hx, hd, he⟩, ⟨o, ho⟩, fun g1 g2 ⟨p1, p2, p3, p4, o', es', ep', ho', r⟩ k => ⟨p1, p2, p3, p4, o', es', ep', k _ ho', r⟩⟩
/-- k in d, k not in d -/
def rNIn (w : World) (neg : Bool) : V → V → Hp → VK → Prop := fun x y H Q => ∃ ka a nk l, x = .ref ka ∧ y = .ref a ∧ H a = some (DN w a l) ∧ NKV H nk (.ref ka) ∧ nk.depth ≤ 8 ∧ (∀ e ∈ l, NKV H e.1 (.ref e.2.1)) ∧ Q (.bl (if neg then !(atKey l nk).isSome else (atKey l nk).isSome)) H
theorem nroom (hu : X.A.units + 64 < cLine) : (nestedKind X.prog X.w).room X.A.in1 := by
  show X.A.units + 1 + 8 < cLine
  omega
theorem or_nin (hu : X.A.units + 64 < cLine) : OpR X (compareOp .In) (rNIn X.w false) := by
  intro pins s σ H x y v u Q I rx ry h
  obtain ⟨ka, a, nk, l, rfl, rfl, ha, hk, hd, hl, q⟩ := h
  have rx : v = .ref ka := rx
  have ry : u = .ref a := ry
  subst rx ry
  obtain ⟨h1, h2, h4, hm⟩ := dn_get I ha hl
  exact wpAny_in_heap (nroom hu) ⟨nkv_is I.hok _ _ _ hk rfl, hd⟩ h1 hm ⟨.bl (atKey l nk).isSome, H, I.tok _, rfl, q⟩
theorem or_nnotIn (hu : X.A.units + 64 < cLine) : OpR X (compareOp .NotIn) (rNIn X.w true) := by
  intro pins s σ H x y v u Q I rx ry h
  obtain ⟨ka, a, nk, l, rfl, rfl, ha, hk, hd, hl, q⟩ := h
  have rx : v = .ref ka := rx
  have ry : u = .ref a := ry
  subst rx ry
  obtain ⟨h1, h2, h4, hm⟩ := dn_get I ha hl
  show wpAny _ _ (do return Value.bool (!(← contains (.ref a) (.ref ka)))) _ _ s
  exact wpAny_bind (wpAny_contains_heap (nroom hu) ⟨nkv_is I.hok _ _ _ hk rfl, hd⟩ h1 hm (wpAny_pure ⟨.bl (!(atKey l nk).isSome), H, I.tok _, rfl, q⟩))
/-- d[k] = v -/
def sNPut (w : World) (td ty tv : TE) : TS := fun D σ H => tv σ H fun v H1 => td σ H1 fun x H2 => ty σ H2 fun y H3 => ∃ ka a nk l, x = .ref a ∧ y = .ref ka ∧ H3 a = some (DN w a l) ∧ NKV H3 nk (.ref ka) ∧ nk.depth ≤ 8 ∧ (∀ e ∈ l, NKV H3 e.1 (.ref e.2.1)) ∧ l.length < sizeLine ∧ ∀ u, RelV v u → D.nx σ (upd H3 a (DN w a (storedH l nk ka u)))
variable {o i value : Expr} {td ty tv : TE} {pos pos' : Pos}
theorem ps_nput (hu : X.A.units + 64 < cLine) (ho : PE X o td) (hi : PE X i ty) (hv : PE X value tv) (hs : swapsWith value (some (.Subscript o i pos')) pos.line X.env = pure false) : PS X (.Assign [.Subscript o i pos'] value pos) (sNPut X.w td ty tv) := by
  refine ⟨fun pins s σ H D I h => ?_⟩
  refine wpAny_Assign_Subscript (thn (hv.run pins s σ H _ I h) fun r s1 ⟨v, H1, I1, rv, q1⟩ => thn (ho.run pins s1 σ H1 _ I1 q1) fun u s2 ⟨x, H2, I2, rx, q2⟩ => thn (hi.run pins s2 σ H2 _ I2 q2) fun iv s3 ⟨y, H3, I3, ry, ka, a, nk, l, ex, ey, ha, hk, hd, hl, hz, q3⟩ => ?_) hs
  subst ex ey
  have rx : u = .ref a := rx
  have ry : iv = .ref ka := ry
  subst rx ry
  obtain ⟨h1, h2, h4, hm⟩ := dn_get I3 ha hl
  refine wpAny_setItem_heap (nroom hu) ⟨nkv_is I3.hok _ _ _ hk rfl, hd⟩ hm (fun h' hm' hs => ?_) h2
  have hlen : (storedH l nk ka r).length ≤ sizeLine := by
    unfold storedH
    split
    · rw [List.length_map]; exact h2
    · rw [List.length_append]; simp only [List.length_cons, List.length_nil]; omega
  have hdep : ∀ x ∈ storedH l nk ka r, x.1.depth ≤ 8 := fun x hx => by
    unfold storedH at hx
    split at hx
    · obtain ⟨y, hy, rfl⟩ := List.mem_map.mp hx
      have := h4 y hy
      unfold putAt
      split <;> exact this
    · rcases List.mem_append.mp hx with hx | hx
      · exact h4 x hx
      · simp only [List.mem_cons, List.not_mem_nil, or_false] at hx
        subst hx
        exact hd
  have he : ∃ q, h'.get? a = some q := by
    obtain ⟨o, _, _, ho, _⟩ := id hm'
    exact ⟨o, ho⟩
  exact ⟨σ, _, d_write (t' := s3.toks + (nestedKind X.prog X.w).draws nk) I3 (by rw [ha]; trivial) hs he (dn_new h1 hlen hdep hm'), q3 r rv⟩
/-- {} -/
def tDNewN (w : World) : TE := fun _ H Q => ∀ p, H p = none → Q (.ref p) (upd H p (DN w p []))
theorem dn_empty {P : Program} {w : World} {H : Hp} (h : Heap) (hb : sysModules < h.objs.size) : ObjOk P w H (h.push { cls := .type "dict", data := .dict #[] }) h.objs.size (DN w h.objs.size []) :=
  dn_new (beq_eq_false_iff_ne.mpr (Ne.symm (Nat.ne_of_lt hb))) (Nat.zero_le _) (fun x hx => nomatch hx) (Heap.DictOfH.new (knd := nestedKind P w) h)
theorem pe_dnewN {p : Pos} : PE X (.Dict [] [] p) (tDNewN X.w) := ⟨fun pins s σ H Q I h =>
  wpAny_Dict_empty ⟨.ref s.heap.objs.size, _, I.laid (a := s.heap.objs.size) (o := DN X.w s.heap.objs.size []) (t' := s.toks) (fun _ _ q => Heap.get?_push_of_some _ q) (Nat.le_refl _) (dn_empty s.heap I.big), rfl, h _ (I.hok.fresh (Nat.le_refl _))⟩⟩
end
def nkOk (d : D) : Bool := match d, nkD d with
  | .tup _, some k => decide (k.depth ≤ 8)
  | _, _ => false
theorem nkOk_some {d : D} (h : nkOk d = true) : ∃ ds k, d = .tup ds ∧ nkD d = some k ∧ k.depth ≤ 8 := by
  unfold nkOk at h
  split at h
  · next ds k e => exact ⟨ds, k, rfl, e, of_decide_eq_true h⟩
  · cases h
def nN0 : En → Option Sl := fun _ => some (.on [])
def xNotInN (i : Nat) (f : Ex) : Ex := fun δ => match δ[i]? with
  | some (some (.on kvs)) => (f δ).bind fun k => if nkOk k = true then some (.bl (!(dLook k kvs).isSome)) else none
  | _ => none
def sDputN (i : Nat) (fk fv : Ex) : Tt := fun C δ => ∃ kvs kd v, δ[i]? = some (some (.on kvs)) ∧ fv δ = some v ∧ fk δ = some kd ∧ nkOk kd = true ∧ kvs.length < most ∧ C.nx (δ.put i (.on (dPut kd v kvs)))
section
variable {κ : Kap} {X : Cx} {a b c e : Expr} {es : List Expr} {f fa fb fc : Ex} {pos p p2 apos : Pos} {k : Nat}
theorem N_dn0 (hw : κ.wd = X.w) : PNx κ X (.Dict [] [] pos) nN0 := pe_mono pe_dnewN fun σ H Q ⟨δ, Z, z, E, sl, hd, q⟩ => by
  cases hd
  exact fun p hp => q (.ref p) _ (fun a => Z a ∨ a = p) (.upd hp) (.one hp) (zok_one z hp fun _ => nofun) ⟨p, [], rfl, .inr rfl, by rw [upd_same, hw], rfl⟩ fun _ a e => by cases e; exact hp
theorem notInN_of {i : Nat} (hw : κ.wd = X.w) {σ : L2.St} {H : Hp} {Q : VK} (h : tPX X.K κ (xNotInN i f) σ H Q) : tOp (rNIn X.w true) (tPX X.K κ f) (tVar i) σ H Q := by
  obtain ⟨δ, Z, z, E, d, hd, q⟩ := h
  unfold xNotInN at hd
  split at hd
  · next kvs hi =>
    obtain ⟨kd, h1, h2⟩ := Option.bind_eq_some_iff.mp hd
    split at h2
    · next hk =>
      cases h2
      obtain ⟨ds, nk, rfl, h3, h4⟩ := nkOk_some hk
      refine ⟨δ, Z, z, E, _, h1, fun v H' e r => ?_⟩
      obtain ⟨aa, l, q1, q2, q3, q4⟩ := E.at_ i _ hi
      obtain ⟨pk, vs, rfl, hp, hs⟩ := id r
      have r' : Rep κ H' (.tup ds) (.ref pk) := Rep.le (hide_le Z H') _ _ r
      have q4' : RepN κ (hide Z H') kvs l := RepN.le (Ext.hide e) _ _ q4
      refine ⟨_, q1, pk, aa, nk, l, rfl, rfl, by rw [← hw]; exact e _ _ q3, rep_nkv _ _ _ h3 r', h4, fun x hx => repN_keys (RepN.le (hide_le Z H') _ _ q4') x hx, ?_⟩
      have := (repN_look h3 q4').1
      rw [← this]
      exact q _ H' e rfl
    · cases h2
  · cases hd
theorem X_notInN (i : Nat) {x : Str} {p1 : Pos} (kn : Kn X k) (hw : κ.wd = X.w) (ha : PX κ X a f) (hi : X.N[i]? = some x := by rfl) (hv : Vis X.env.scope x := by first | exact Or.inl rfl | exact Or.inr (Or.inl rfl) | exact Or.inr (Or.inr rfl)) (hd : (x == ("__debug__" : Str)) = false := by decide) (hcd : (x == ("__classdict__" : Str)) = false := by decide) (hmk : behindInMarks .NotIn (.Name x p1) = false := by first | exact nomark _ | rfl) : PX κ X (.Compare a [.NotIn] [.Name x p1] pos) (xNotInN i f) :=
  pe_mono (pe_cmpR (or_nnotIn kn.room.units) ha (pe_var hi hv hd hcd) hmk) fun σ H Q h => notInN_of hw h
theorem T_notInN (i : Nat) {x : Str} {p1 : Pos} (kn : Kn X k) (hw : κ.wd = X.w) (ha : PX κ X a f) (hi : X.N[i]? = some x := by rfl) (hv : Vis X.env.scope x := by first | exact Or.inl rfl | exact Or.inr (Or.inl rfl) | exact Or.inr (Or.inr rfl)) (hd : (x == ("__debug__" : Str)) = false := by decide) (hcd : (x == ("__classdict__" : Str)) = false := by decide) (hmk : behindInMarks .NotIn (.Name x p1) = false := by first | exact nomark _ | rfl) : PTx κ X (.Compare a [.NotIn] [.Name x p1] pos) (tB (xNotInN i f)) :=
  pt_mono (pt_cmpR (or_nnotIn kn.room.units) ha (pe_var hi hv hd hcd) hmk) fun σ H Q h => tb_of (fun _ _ _ h => notInN_of hw h) h
theorem S_dputN (i : Nat) {x : Str} {p1 p4 : Pos} {ke : Expr} {fk : Ex} (kn : Kn X k) (hw : κ.wd = X.w) (hk : PX κ X ke fk) (he : PX κ X e f) (hs : swapsWith e (some (.Subscript (.Name x p1) ke p4)) pos.line X.env = pure false := by rfl) (hi : X.N[i]? = some x := by rfl) (hv : Vis X.env.scope x := by first | exact Or.inl rfl | exact Or.inr (Or.inl rfl) | exact Or.inr (Or.inr rfl)) (hd : (x == ("__debug__" : Str)) = false := by decide) (hcd : (x == ("__classdict__" : Str)) = false := by decide) :
    PSx κ X (.Assign [.Subscript (.Name x p1) ke p4] e pos) (sDputN i fk f) := ps_mono (ps_nput kn.room.units (pe_var hi hv hd hcd) hk he hs) fun D σ H ⟨H₀, F, Z, C, δ, S, ⟨kvs, kd, d, h0, h1, h2, h3, hl, h4⟩, E⟩ => ps_px S h1 fun v H1 e1 S1 r1 => by
  obtain ⟨l, vs, q, z, b, c⟩ := S1.env.at_ i _ h0
  refine ⟨_, q, ps_px S1 h2 fun y H2 e2 S2 r2 => ?_⟩
  have b' := e2 _ _ b
  obtain ⟨ds, nk, rfl, h5, h6⟩ := nkOk_some h3
  obtain ⟨pk, us, rfl, hp, rs⟩ := id r2
  have c' : RepN κ (hide Z H2) kvs vs := RepN.le (Ext.hide e2) _ _ c
  refine ⟨pk, l, nk, vs, rfl, rfl, by rw [← hw]; exact b', rep_nkv _ _ _ h5 (Rep.le (hide_le Z H2) _ _ r2), h6, fun x hx => repN_keys (RepN.le (hide_le Z H2) _ _ c') x hx, by rw [repN_len c']; exact Nat.lt_of_lt_of_le hl (most_ok (Nat.le_refl _)), fun u ru => E.nx _ _ _ _ (S2.write (o := DN X.w l (storedH vs nk pk u)) h0 rfl rfl q z (fun _ => nofun) ?_) h4⟩
  have le : Le (hide Z H2) (hide Z (upd H2 l (DN X.w l (storedH vs nk pk u)))) := (show ExtZ _ _ _ from fun b q n h => by rw [upd_ne (fun e => n (by rw [e]; exact z))]; exact h).le
  exact ⟨l, _, rfl, z, by rw [upd_same, hw], RepN.le le _ _ (repN_put h5 r2 ru (Rep.ext e2 r1) c')⟩
end
end BP
namespace BP
open PySem PySem.Spec L2
theorem star_unpack {prog : Program} {w : World} {A : Around} {E : Value → Shared → Prop} {s : Shared} {l : Addr} {v : Value} {rest : List Value} {Q : List Value → Shared → Prop} (hl : s.heap.IsList l (v :: rest).toArray) (hh : A.handled = none) (hz : rest.length + 1 ≤ sizeLine)
    (h : ∀ D h' tk, (∀ b o, s.heap.get? b = some o → h'.get? b = some o) → s.heap.get? D = none → h'.get? D = some { cls := .type "list", data := .seq rest.toArray } → Q [v, .ref D] { s with heap := h', toks := tk }) : wpAny (model prog w) A (unpackItems (.ref l) 2 (some 1)) Q E s := by
  have hlt : l ≠ s.heap.objs.size := by obtain ⟨o, ho, _⟩ := hl; exact Nat.ne_of_lt (Heap.lt_size ho)
  have hsz : (v :: rest).toArray.size = rest.length + 1 := by simp
  unfold unpackItems
  refine wpAny_bind ?_
  unfold notIterableAtAll
  refine wpAny_bind (wpAny_specialOf hl.typeIs slot_list_iter.lookup ?_)
  refine wpAny_pure ?_
  simp only [Bool.false_eq_true, if_false]
  refine wpAny_bind (wpAny_holding (wpAny_pyIter_list hl ?_))
  refine wpAny_bind (wpAny_holding (PySem.W.kun_draw hlt 1 0 _ _ ⟨_, Heap.get?_push_size _ rfl, rfl, rfl⟩ (hl.push _) (by rw [hsz]; omega) fun h₁ hit₁ hs₁ => ?_))
  have hl₁ : h₁.IsList l (v :: rest).toArray := (hl.push _).extBut hs₁.extBut hlt
  rw [Nat.zero_add] at hit₁
  have hit₁' := hit₁
  obtain ⟨oi, hoi, _⟩ := hit₁'
  have hl₁' := hl₁
  obtain ⟨ol, hol, _⟩ := hl₁'
  show wpAny _ _ (if ([v] : List Value).length < 1 then _ else _) _ _ _
  rw [if_neg (by simp)]
  refine wpAny_bind (wpAny_holding (PySem.W.kun_collect (s := { s with heap := h₁ }) (T := "list_iterator") (.inr (.inr (.inl rfl))) (Walks.list (A := A.in1) hh s.heap.objs.size l hlt (v :: rest).toArray) (fun j u st => st.1.typeIs) (k := 1) (by rw [hsz]; omega) ⟨hit₁, hl₁⟩ (Heap.lt_size hoi) (Heap.lt_size hol) (fun h₂ tk hk => ?_) (by rw [hsz]; exact hz)))
  show wpAny _ _ (if rest.length < 2 - 1 - 1 then _ else _) _ _ _
  rw [if_neg (by omega)]
  have he : ∀ b o, s.heap.get? b = some o → h₂.get? b = some o := fun b o e => hk b o (Nat.ne_of_lt (Heap.lt_size e)) (hs₁.extBut b o (Nat.ne_of_lt (Heap.lt_size e)) (Heap.get?_push_of_some _ e))
  have hn : s.heap.get? h₂.objs.size = none := by
    cases q : s.heap.get? h₂.objs.size with
    | none => rfl
    | some o => exact absurd (Heap.lt_size (he _ _ q)) (Nat.lt_irrefl _)
  show wpAny _ _ (newList (rest.take (rest.length - (2 - 1 - 1))) >>= fun d => pure ([v] ++ [d] ++ rest.drop (rest.length - (2 - 1 - 1)))) _ _ _
  have e1 : rest.take (rest.length - (2 - 1 - 1)) = rest := List.take_of_length_le (by omega)
  have e2 : rest.drop (rest.length - (2 - 1 - 1)) = [] := List.drop_of_length_le (by omega)
  rw [e1, e2]
  refine wpAny_bind (wpAny_newObj_type (wpAny_pure ?_) ?_)
  · exact h h₂.objs.size _ tk (fun b o e => Heap.get?_push_of_some _ (he b o e)) hn (Heap.get?_push_size _ rfl)
  · show rest.toArray.size ≤ sizeLine
    simp only [List.size_toArray]
    omega
def gStar (g0 : TG) (i : Nat) : TG := fun v σ H Q => ∃ a x xs, v = .ref a ∧ H a = some (.lst (x :: xs)) ∧ ∀ p, H p = none → g0 x σ (upd H p (.lst xs)) fun σ' H' => Q (σ'.set i (some (.ref p))) H'
theorem pg_star {X : Cx} {t0 : Expr} {g0 : TG} {y : Str} {py ps pos : Pos} {kk i : Nat} (hc : X.calm = true) (h0 : PG X t0 g0) (hN : X.N.Nodup) (hi : X.N[i]? = some y) (hx : Loc X.env.scope y) (hf : X.fn y = true ∨ X.env.scope.names.lookup y = some .local)
    (hst : assignEach [t0, .Starred (.Name y py) ps] X.env = [(false, assign t0 X.env), (true, assign (.Name y py) X.env)]) : PG X (.Tuple [t0, .Starred (.Name y py) ps] kk pos) (gStar g0 i) := by
  refine ⟨fun pins s σ H v u Q I r ⟨a, x, xs, ev, ha, q⟩ => ?_⟩
  subst ev
  cases r
  obtain ⟨its, rel, pl, hz⟩ := I.list (SqL.of (K := X.K) ha)
  obtain ⟨z0, _⟩ := I.hok a _ ha
  cases rel with
  | @cons _ v0 _ rest r0 rs =>
    rw [arm_assign_Tuple]
    refine wpAny_bind (wpAny_standAt ?_)
    unfold unpack
    rw [hst]
    have hl := rs.length
    refine wpAny_bind (wpAny_holding (star_unpack pl.isList (I.ok.hd hc) (by rw [← hl]; exact hz) fun D h' tk k hn hD => ?_))
    have I1 : Inv X pins σ (upd H D (.lst xs)) { s with heap := h', toks := tk } := I.laidN k hn (I.hok.gone hn) (show ObjOk X.prog X.w _ h' D (.lst xs) from ⟨by simp only [List.length_cons] at z0; omega, rest, 0, rs, hD⟩)
    show wpAny _ _ (assignInOrder [assign t0 X.env, assign (.Name y py) X.env] [v0, .ref D]) _ _ _
    show wpAny _ _ (do holding [Value.ref D] (assign t0 X.env v0); assignInOrder [assign (.Name y py) X.env] [.ref D]) _ _ _
    refine wpAny_bind (wpAny_holding (thn (h0.run pins _ σ (upd H D (.lst xs)) x v0 _ I1 r0 (q D (I.hok.gone hn))) fun _ s2 ⟨σ2, H2, I2, q2⟩ => ?_))
    show wpAny _ _ (do holding [] (assign (.Name y py) X.env (.ref D)); assignInOrder [] []) _ _ _
    refine wpAny_bind (wpAny_holding (thn ((pg_name hN hi hx hf).run pins s2 σ2 H2 (.ref D) (.ref D) _ I2 rfl q2) fun _ s3 q3 => ?_))
    exact wpAny_pure q3
section
variable {K : PySem.W.Frag} {κ : Kap} {H₀ : Hp} {F Z Z₀ : Addr → Prop} {σ σ' : L2.St} {δ δ' : En} {H H3 : Hp}
theorem StR.unc (S : StR K κ H₀ F Z σ δ H) (E : EnvR K κ H Z σ' δ') (u : Unc σ δ σ' δ') : StR K κ H₀ F Z σ' δ' H := ⟨S.z, E, S.ext, S.fz, S.new, fun i j a si sj hi hj oi oj ei ej => by
  obtain ⟨h1, h2⟩ := u i si hi oi
  obtain ⟨h3, h4⟩ := u j sj hj oj
  rw [h2] at ei
  rw [h4] at ej
  exact S.own i j a si sj h1 h3 oi oj ei ej, fun i a si hi oi ei => by
  obtain ⟨h1, h2⟩ := u i si hi oi
  rw [h2] at ei
  exact S.nf i a si h1 oi ei⟩
theorem StR.putFresh {j : Nat} {w : V} {t : Sl} (S : StR K κ H₀ F Z σ' δ' H3) (S₀ : StR K κ H₀ F Z₀ σ δ H) (u : Unc σ δ σ' δ') (r : SlR K κ H3 Z (some (some w)) t) (n : slOwn t = true → ∀ a, w = .ref a → H a = none) : StR K κ H₀ F Z (σ'.set j (some w)) (δ'.put j t) H3 := S.put r fun o a e => by
  have hn := n o a e
  refine ⟨fun q => ?_, fun l sl nl hl ol e2 => ?_⟩
  · obtain ⟨_, h, _⟩ := S₀.z a (S₀.fz a q)
    rw [hn] at h; cases h
  · obtain ⟨h1, h2⟩ := u l sl hl ol
    rw [h2] at e2
    obtain ⟨b, h3, h4, h5⟩ := (S₀.env.at_ l sl h1).owned ol
    rw [e2] at h3
    cases h3
    exact h5 hn
end
/-- (t.., *y) = x, x an own list with an item at least -/
def sStar (i : Nat) (g : Gx) (j : Nat) : Tt := fun C δ => ∃ d r δ', δ[i]? = some (some (.ol (d :: r))) ∧ g d δ = some δ' ∧ C.nx (δ'.put j (.ol r))
def tFL (κ : Kap) (K : PySem.W.Frag) (f : En → Option (List D)) : TE := fun σ H Q => ∃ (δ : En) (Z : Addr → Prop), ZOk Z H ∧ EnvR K κ H Z σ δ ∧ ∃ ds, f δ = some ds ∧ ∀ p vs H'', Ext H H'' → H'' p = none → Reps κ (hide Z H'') ds vs → Q (.ref p) (upd H'' p (.lst vs))
abbrev PFL (κ : Kap) (X : Cx) (e : Expr) (f : En → Option (List D)) : Prop := PE X e (tFL κ X.K f)
def nL (f : En → Option (List D)) : En → Option Sl := fun δ => (f δ).map .ol
def nDictD (f : Ex) : En → Option Sl := fun δ => (f δ).bind fun d => match d with
  | .dct kvs => some (.od kvs)
  | _ => none
def fCut (a : Ex) (lo hi : Ox) : En → Option (List D) := fun δ => (a δ).bind fun d => (lo δ).bind fun l => (hi δ).bind fun h => match d with
  | .lst ds => some (cut ds l h)
  | _ => none
def fList (a : Ex) : En → Option (List D) := fun δ => (a δ).bind fun d => match d with
  | .lst ds => some ds
  | _ => none
def fLst (g : Sx) : En → Option (List D) := fun δ => (g δ).bind fun ds => if ds.length ≤ most then some ds else none
section
variable {κ : Kap} {X : Cx} {a b c e : Expr} {es : List Expr} {f fa fb fc : Ex} {g : Sx} {fl : En → Option (List D)} {pos p p2 p3 apos : Pos} {k : Nat}
theorem N_fl (h : PFL κ X e fl) : PNx κ X e (nL fl) := pe_mono h fun σ H Q ⟨δ, Z, z, E, sl, hd, q⟩ => by
  obtain ⟨ds, h1, h2⟩ := Option.map_eq_some_iff.mp hd
  subst h2
  refine ⟨δ, Z, z, E, ds, h1, fun p vs H'' e hp r => q (.ref p) _ (fun a => Z a ∨ a = p) (e.trans (.upd hp)) ?_ ?_ ⟨p, vs, rfl, .inr rfl, upd_same, ?_⟩ fun _ a ea => ?_⟩
  · exact (Grow.refl Z H).trans e (Grow.one hp)
  · exact zok_one (z.ext e) hp fun _ => nofun
  · have : Reps κ (hide (fun b => Z b ∨ b = p) H'') ds vs := by rw [hide_add hp]; exact r
    exact Reps.ext (.upd hp) this
  · cases ea
    exact ext_none e hp
theorem F_lst (ha : PAx κ X es g) : PFL κ X (.List es pos) (fLst g) := pe_mono (pe_lst ha) fun σ H Q ⟨δ, Z, z, E, d, hd, q⟩ => by
  obtain ⟨ds, h1, h2⟩ := Option.bind_eq_some_iff.mp hd
  split at h2
  · next hl =>
    cases h2
    exact ⟨δ, Z, z, E, _, h1, fun vs H' e r => ⟨by rw [r.length]; exact most_ok hl, fun p hp => q p vs H' e hp r⟩⟩
  · cases h2
theorem F_cut {lo hi : Option Expr} {fl fh : Ox} (he : PB κ X e f) (hl : POx κ X lo fl) (hh : POx κ X hi fh) : PFL κ X (.Subscript e (.Slice lo hi none p2) pos) (fCut f fl fh) := pe_mono (pe_slice sl_list he hl hh) fun σ H Q ⟨δ, Z, z, E, d, hd, q⟩ => by
  obtain ⟨y, h1, h2⟩ := Option.bind_eq_some_iff.mp hd
  obtain ⟨l, h3, h4⟩ := Option.bind_eq_some_iff.mp h2
  obtain ⟨h, h5, h6⟩ := Option.bind_eq_some_iff.mp h4
  refine ⟨δ, Z, z, E, y, h1, fun v H1 e1 r => ⟨δ, Z, z.ext e1, E.ext e1, l, h3, fun H2 e2 => ⟨δ, Z, (z.ext e1).ext e2, (E.ext e1).ext e2, h, h5, fun H3 e3 => ?_⟩⟩⟩
  have r' := (r.ext e2).ext e3
  cases y <;> dsimp only at h6 <;> first | (cases h6; done) | skip
  cases h6
  obtain ⟨p, vs, rfl, hp, rs⟩ := r'
  exact ⟨p, vs, rfl, hp, fun p' hp' => q _ _ _ ((e1.trans e2).trans e3) hp' (reps_cut l h rs)⟩
theorem F_list (kn : Kn X k) (hg : Gl X "list") (hm : X.mg "list" = none) (ha : PB κ X e f) (he : starEach [e] X.env = (false, eval e X.env) :: starEach [] X.env := by rfl) (hpl : (backTo pos (starEach [] X.env)).any (·.1) = false := by rfl) : PFL κ X (.Call (.Name "list" p) [e] [] pos) (fList f) :=
  pe_mono (pe_callTy call_list_of hg hm PyProof.Rows.boot_list (pa_cons ha pa_nil he) (he := he) (hpl := hpl)) fun σ H Q ⟨δ, Z, z, E, d, hd, q⟩ => by
    obtain ⟨y, h1, h2⟩ := Option.bind_eq_some_iff.mp hd
    refine ⟨δ, Z, z, E, y, h1, fun v H1 e1 r => ?_⟩
    cases y <;> dsimp only at h2 <;> first | (cases h2; done) | skip
    cases h2
    obtain ⟨p, vs, rfl, hp, rs⟩ := r
    exact ⟨p, vs, rfl, .inl hp, fun l hl => q l vs H1 e1 hl rs⟩
/-- dict(d) as an own dict -/
theorem N_dictD (hg : Gl X "dict") (hm : X.mg "dict" = none) (ha : PB κ X e f) (he : starEach [e] X.env = (false, eval e X.env) :: starEach [] X.env := by rfl) (hpl : (backTo pos (starEach [] X.env)).any (·.1) = false := by rfl) : PNx κ X (.Call (.Name "dict" p) [e] [] pos) (nDictD f) :=
  pe_mono (pe_callTy call_dictD hg hm PyProof.Rows.boot_dict (pa_cons ha pa_nil he) (he := he) (hpl := hpl)) fun σ H Q ⟨δ, Z, z, E, d, hd, q⟩ => by
    obtain ⟨y, h1, h2⟩ := Option.bind_eq_some_iff.mp hd
    refine ⟨δ, Z, z, E, y, h1, fun v H1 e1 r => ?_⟩
    cases y <;> dsimp only at h2 <;> first | (cases h2; done) | skip
    rename_i kvs
    cases h2
    obtain ⟨p0, l, rfl, hp0, rk⟩ := r
    refine ⟨p0, l, rfl, hp0, fun p hp => q (.ref p) _ (fun a => Z a ∨ a = p) (e1.trans (.upd hp)) ?_ ?_ ⟨p, l, rfl, .inr rfl, upd_same, ?_⟩ fun _ a ea => ?_⟩
    · exact (Grow.refl Z H).trans e1 (Grow.one hp)
    · exact zok_one (z.ext e1) hp fun _ => nofun
    · have : RepK κ (hide (fun b => Z b ∨ b = p) H1) kvs l := by rw [hide_add hp]; exact rk
      exact RepK.le (Ext.hide (.upd hp)) _ _ this
    · cases ea
      exact ext_none e1 hp
theorem S_star (i j : Nat) {t0 : Expr} {x y : Str} {px py ps pt : Pos} {kk : Nat} {g : Gx} {ss : List Nat} (kn : Kn X k) (h0 : PGx κ X t0 g ss) (hi : X.N[i]? = some x := by rfl) (hv : Vis X.env.scope x := by first | exact Or.inl rfl | exact Or.inr (Or.inl rfl) | exact Or.inr (Or.inr rfl)) (hd : (x == ("__debug__" : Str)) = false := by decide) (hcd : (x == ("__classdict__" : Str)) = false := by decide)
    (hj : X.N[j]? = some y := by rfl) (hy : Loc X.env.scope y := by first | exact Or.inl rfl | exact Or.inr rfl) (hfy : X.fn y = true ∨ X.env.scope.names.lookup y = some .local := by first | exact .inl rfl | exact .inr rfl | assumption)
    (hst : assignEach [t0, .Starred (.Name y py) ps] X.env = [(false, assign t0 X.env), (true, assign (.Name y py) X.env)] := by rfl)
    (hs : swapsWithSole [.Tuple [t0, .Starred (.Name y py) ps] kk pt] (.Name x px) pos.line X.env = pure false := by rfl) (hw : swappedStores [.Tuple [t0, .Starred (.Name y py) ps] kk pt] (.Name x px) X.env = pure none := by rfl) : PSx κ X (.Assign [.Tuple [t0, .Starred (.Name y py) ps] kk pt] (.Name x px) pos) (sStar i g j) :=
  ps_mono (ps_asg (pe_var hi hv hd hcd) (pg_star kn.calm h0 kn.nd hj hy hfy hst) hs hw) fun D σ H ⟨H₀, F, Z, C, δ, S, ⟨d, r, δ', h1, h2, h3⟩, E⟩ => by
    obtain ⟨a, vs, q1, q2, q3, q4⟩ := S.env.at_ i _ h1
    obtain ⟨v0, rest, rfl, r0, rs⟩ := q4
    refine ⟨_, q1, a, v0, rest, rfl, q3, fun p hp => ?_⟩
    have S1 := S.grow (H' := upd H p (.lst rest)) (Z' := fun b => Z b ∨ b = p) (.upd hp) (.one hp) (zok_one S.z hp fun _ => nofun)
    have hid : hide (fun b => Z b ∨ b = p) H = hide Z H := hide_add hp
    refine ⟨δ, _, d, S1.z, S1.env, Rep.ext (.upd hp) (by rw [hid]; exact r0), δ', h2, fun σ' H' e' E' _ u => ?_⟩
    have S2 := (S1.ext' e').unc E' u
    refine E.nx _ _ _ _ (S2.putFresh (t := .ol r) S u ⟨p, rest, rfl, .inr rfl, e' _ _ upd_same, Reps.ext e' (Reps.ext (.upd hp) (by rw [hid]; exact rs))⟩ fun _ a ea => ?_) h3
    cases ea
    exact hp
/-- (t.., y) = (a, b), t a tuple of names -/
def sParG (g : Gx) (j : Nat) (ns : En → Option (List Sl)) : Tt := fun C δ => ∃ d t δ', ns δ = some [.sh d, t] ∧ g d δ = some δ' ∧ C.nx (δ'.put j t)
theorem S_parG (j : Nat) {t0 : Expr} {y : Str} {py pt : Pos} {kt k2 pt2} {ns : En → Option (List Sl)} {g : Gx} {ss : List Nat} (kn : Kn X k) (h0 : PGx κ X t0 g ss) (ha : PANx κ X [a, b] ns) (hj : X.N[j]? = some y := by rfl) (hy : Loc X.env.scope y := by first | exact Or.inl rfl | exact Or.inr rfl)
    (hfy : X.fn y = true ∨ X.env.scope.names.lookup y = some .local := by first | exact .inl rfl | exact .inr rfl | assumption) (hst : (assignEach [t0, .Name y py] X.env).map (·.2) = assign t0 X.env :: (assignEach [.Name y py] X.env).map (·.2) := by rfl) (hst2 : (assignEach [t0, .Name y py] X.env).findIdx? (·.1) = none := by rfl) (hln : (assignEach [t0, .Name y py] X.env).length = 2 := by rfl)
    (hs : swapsWithSole [.Tuple [t0, .Name y py] kt pt] (.Tuple [a, b] k2 pt2) pos.line X.env = pure false := by rfl) (hw : swappedStores [.Tuple [t0, .Name y py] kt pt] (.Tuple [a, b] k2 pt2) X.env = pure none := by rfl) : PSx κ X (.Assign [.Tuple [t0, .Name y py] kt pt] (.Tuple [a, b] k2 pt2) pos) (sParG g j ns) :=
  ps_mono (ps_asg (pe_tup ha) (pg_tup (n := 2) kn.calm (pgs_cons h0 (pgs_cons (pg_name kn.nd hj hy hfy) pgs_nil) hst) hln hst2) hs hw) fun D σ H ⟨H₀, F, Z, C, δ, S, ⟨d, t, δ', h1, h2, h3⟩, E⟩ => ⟨δ, Z, S.z, S.env, _, h1, fun vs H' Z' e g z nw => by
    obtain ⟨v, t', rfl, rv, _, w, t2, rfl, rw_, fw, rfl⟩ := nw
    refine ⟨by rw [sizeLine_eq]; simp, fun p hp => ⟨p, [v, w], rfl, SqT.of upd_same, rfl, v, [w], rfl, ?_⟩⟩
    have S1 := (S.grow e g z).ext' (.upd (o := .tup [v, w]) hp)
    obtain ⟨v', ev, rd⟩ := rv
    cases ev
    refine ⟨δ, Z', d, S1.z, S1.env, Rep.ext (.upd hp) rd, δ', h2, fun σ' H3 e3 E3 _ u => ⟨w, [], rfl, ?_⟩⟩
    have S2 := (S1.ext' e3).unc E3 u
    refine ⟨rfl, E.nx _ _ _ _ (S2.putFresh S u ((rw_.ext (.upd hp)).ext e3) fun o a ea => (fw o a ea).1) h3⟩⟩
/-- x[i] = value, x an own list -/
def sLput (i : Nat) (fk fv : Ex) : Tt := fun C δ => ∃ ds v n j, δ[i]? = some (some (.ol ds)) ∧ fv δ = some v ∧ fk δ = some (.int n) ∧ nix ds.length n = some j ∧ C.nx (δ.put i (.ol (ds.set j v)))
theorem S_lput (i : Nat) {x : Str} {p1 p4 : Pos} {ke : Expr} {fk : Ex} (kn : Kn X k) (hk : PX κ X ke fk) (he : PX κ X e f) (hi : X.N[i]? = some x := by rfl) (hv : Vis X.env.scope x := by first | exact Or.inl rfl | exact Or.inr (Or.inl rfl) | exact Or.inr (Or.inr rfl)) (hd : (x == ("__debug__" : Str)) = false := by decide) (hcd : (x == ("__classdict__" : Str)) = false := by decide)
    (hs : swapsWithSole [.Subscript (.Name x p1) ke p4] e pos.line X.env = pure false := by rfl) (hw : swappedStores [.Subscript (.Name x p1) ke p4] e X.env = pure none := by rfl)
    (ha : ∀ v, assign (.Subscript (.Name x p1) ke p4) X.env v = (do
      let ov ← holding [v] (eval (.Name x p1) X.env)
      let iv ← holding [v, ov] (eval ke X.env)
      standAt p4
      holding [v, ov, iv] (setItem ov iv v)
      release [v, ov, iv] []) := by intro _; rfl) : PSx κ X (.Assign [.Subscript (.Name x p1) ke p4] e pos) (sLput i fk f) :=
  ps_mono (ps_asg he (pg_sub (pe_var hi hv hd hcd) hk set_list ha) hs hw) fun D σ H ⟨H₀, F, Z, C, δ, S, ⟨ds, d, n, j, h0, h1, h2, h3, h4⟩, E⟩ => ps_px S h1 fun v H1 e1 S1 r1 => by
  obtain ⟨l, vs, q, z, b, c⟩ := S1.env.at_ i _ h0
  refine ⟨_, q, ps_px S1 h2 fun y H2 e2 S2 r2 => ?_⟩
  have b' := e2 _ _ b
  have r2 : y = .int n := r2
  subst r2
  refine ⟨l, vs, n, j, rfl, rfl, b', by rw [c.length]; exact h3, E.nx _ _ _ _ (S2.write (o := .lst (vs.set j v)) h0 rfl rfl q z (fun _ => nofun) ?_) h4⟩
  have le : Le (hide Z H2) (hide Z (upd H2 l (.lst (vs.set j v)))) := (show ExtZ _ _ _ from fun b q n h => by rw [upd_ne (fun e => n (by rw [e]; exact z))]; exact h).le
  exact ⟨l, _, rfl, z, upd_same, Reps.le le _ _ (Reps.set (Rep.ext e2 r1) j (Reps.ext e2 c))⟩
end
end BP
namespace BP
open PySem PySem.Spec PyProof.Rows
/-- the text of an element -/
def txOf (e : Int × Value) : Str := match e.2 with
  | .str k _ => k
  | _ => ⟨#[]⟩
def TxEl (w : World) (e : Int × Value) : Prop := ∃ k tk, e = (hashStr w k, Value.str k tk)
/-- the set of the texts l at a, laid so that it can be walked -/
def SetT (w : World) (h : Heap) (a : Addr) (l : List Str) : Prop := ∃ o els ep tb, h.get? a = some o ∧ o.ExactSet ∧ o.data = .set els ep tb ∧ (∀ e ∈ els.toList, TxEl w e) ∧ (els.toList.map txOf).Perm l ∧ l.Nodup ∧ l.length < scanBound ∧ tb.fits els.size = true ∧ L2.Ris tb.place.toList ∧ (w.params.followText "set-order" = true ∨ tb.led = true)
section
variable {P : Program} {w : World} {h h' : Heap} {a : Addr} {l : List Str}
theorem SetT.at (R : SetT w h a l) (k : ∀ o, h.get? a = some o → h'.get? a = some o) : SetT w h' a l := let ⟨o, els, ep, tb, ho, r⟩ := R; ⟨o, els, ep, tb, k o ho, r⟩
theorem TxEl.is {e : Int × Value} (g : TxEl w e) (k : Str) : (strKind P w).is k e.2 = true ↔ txOf e = k := by
  obtain ⟨k0, tk, rfl⟩ := g
  show ((k0 == k) = true) ↔ k0 = k
  exact beq_iff_eq
theorem TxEl.elems {els : List (Int × Value)} (g : ∀ e ∈ els, TxEl w e) : ElemsOf (strKind P w) els := fun e he => by
  obtain ⟨k, tk, rfl⟩ := g e he
  refine ⟨⟨k, ?_, rfl⟩, rfl⟩
  show (k == k) = true
  exact beq_self_eq_true k
theorem SetT.size {els : Array (Int × Value)} (hp : (els.toList.map txOf).Perm l) : els.size = l.length := by
  have := hp.length_eq
  simpa using this
theorem SetT.setOf (R : SetT w h a l) : h.SetOf (strKind P w) a (fun k => decide (k ∈ l)) l.length := by
  obtain ⟨o, els, ep, tb, ho, hx, hd, g, hp, nd, hb, hf, _⟩ := R
  have hs := SetT.size hp
  refine ⟨o, els, ep, tb, ho, hx, hd, TxEl.elems g, fun k => ?_, by rw [hs]; exact hb, hf, hs⟩
  rw [decide_eq_true_eq, ← hp.mem_iff, List.mem_map]
  exact ⟨fun ⟨e, he, q⟩ => ⟨e, he, ((g e he).is k).2 q⟩, fun ⟨e, he, q⟩ => ⟨e, he, ((g e he).is k).1 q⟩⟩
theorem SetT.new (ho : h.get? a = some { cls := .type "set", dict := none, data := .set #[] 0 (.fresh 0 0 (!w.params.followText "set-order")) }) : SetT w h a [] := by
  refine ⟨_, #[], 0, _, ho, ⟨rfl, rfl, rfl⟩, rfl, fun e he => by simp at he, List.Perm.refl _, List.nodup_nil, by decide, rfl, List.Pairwise.nil, ?_⟩
  show _ ∨ (!w.params.followText "set-order") = true
  cases w.params.followText "set-order" with
  | true => exact .inl rfl
  | false => exact .inr rfl
end
section
variable {P : Program} {w : World} {A : Around} {E : Value → Shared → Prop} {s : Shared} {a : Addr} {l : List Str}
/-- the end of an add: the set is stored, and laid anew where it is full -/
theorem setT_tail {gv : Bool → Sem Unit} (hg : ∀ (b : Bool) (s₁ : Shared) (Q' : Unit → Shared → Prop), Q' () s₁ → wpAny (model P w) A (gv b) Q' E s₁) {o : Obj} {els els1 : Array (Int × Value)} {ep : Nat} {tb tb2 : SetTable} (ho : s.heap.get? a = some o) (hx : o.ExactSet) (hd : o.data = .set els ep tb)
    (g1 : ∀ e ∈ els1.toList, TxEl w e) (hp1 : (els1.toList.map txOf).Perm l) (nd : l.Nodup) (hb : l.length < scanBound) (hf : tb2.fits els1.size = true) (hr : L2.Ris tb2.place.toList) (hl : w.params.followText "set-order" = true ∨ tb2.led = true) {wd : Bool} {R : Option Bool → Shared → Prop}
    (hR : ∀ h', Heap.SameBut a s.heap h' → SetT w h' a l → R (some true) { s with heap := h' }) :
    wpAny (model P w) A (do
        storeSet a els1 tb2
        if (!wd && tb2.tooFull) = true then do
            gv (relayAll tb2 els1 (SetTable.grown els1.size)).2.2
            storeSet a (relayAll tb2 els1 (SetTable.grown els1.size)).1 (relayAll tb2 els1 (SetTable.grown els1.size)).2.1
            pure (some true)
          else pure (some true)) R E s := by
  have hs1 : els1.size = l.length := SetT.size hp1
  have fit1 : els1.size ≤ sizeLine := fits_of_scanBound (by rw [hs1]; exact hb)
  have stored := L2.store_at (es' := els1) (t' := tb2) ho hd
  refine wpAny_bind (wpAny_storeSet_of ho hd ?_ fit1)
  have same1 : Heap.SameBut a s.heap _ := Heap.SameBut.update s.heap a (Obj.putSet els1 tb2)
  cases hc : (!wd && tb2.tooFull) with
  | false =>
    rw [if_neg Bool.false_ne_true]
    exact wpAny_pure (hR _ same1 ⟨_, els1, ep + 1, tb2, stored, hx, rfl, g1, hp1, nd, hb, hf, hr, hl⟩)
  | true =>
    rw [if_pos rfl]
    have pm := relayAll_perm tb2 els1 (SetTable.grown els1.size)
    have f3 := relayAll_fits tb2 els1 (SetTable.grown els1.size)
    have r3 := L2.relayAll_ris tb2 els1 (SetTable.grown els1.size)
    have d3 := L2.relayAll_led tb2 els1 (SetTable.grown els1.size)
    revert pm f3 r3 d3
    generalize relayAll tb2 els1 (SetTable.grown els1.size) = laid
    obtain ⟨els2, tb3, gave⟩ := laid
    intro pm f3 r3 d3
    have pm2 : (els2.toList.map txOf).Perm l := (pm.map txOf).trans hp1
    have fit2 : els2.size ≤ sizeLine := fits_of_scanBound (by rw [SetT.size pm2]; exact hb)
    refine wpAny_bind (hg gave _ _ (wpAny_bind (wpAny_storeSet_of stored rfl ?_ fit2)))
    exact wpAny_pure (hR _ (same1.trans (Heap.SameBut.update _ a _)) ⟨_, els2, _, tb3, L2.store_at (es' := els2) (t' := tb3) stored rfl, hx, rfl, fun e he => g1 e (pm.mem_iff.mp he), pm2, nd, hb, f3, r3, hl.imp id fun z => d3.trans z⟩)
theorem setT_add_hashed {k : Str} {tk : Tok} {Q : Bool → Shared → Prop} (R : SetT w s.heap a l) (room : l.length + 1 < scanBound) (hQ : ∀ h', Heap.SameBut a s.heap h' → SetT w h' a (if k ∈ l then l else l ++ [k]) → Q (!decide (k ∈ l)) { s with heap := h' }) :
    wpAny (model P w) A (setAddHashed a (.str k tk) ((strKind P w).hash k)) Q E s := by
  obtain ⟨o, els, ep, tb, ho, hx, hd, g, hp, nd, hb, hf, hr, hl⟩ := R
  have hkey : (strKind P w).is k (.str k tk) = true := by
    show (k == k) = true
    exact beq_self_eq_true k
  have hscan : (Value.str k tk).scannable = true := rfl
  have hel : ElemsOf (strKind P w) els.toList := TxEl.elems g
  have hsz : els.size = l.length := SetT.size hp
  have hmem : (∃ e ∈ els.toList, (strKind P w).is k e.2 = true) ↔ k ∈ l := by
    rw [← hp.mem_iff, List.mem_map]
    exact ⟨fun ⟨e, he, q⟩ => ⟨e, he, ((g e he).is k).1 q⟩, fun ⟨e, he, q⟩ => ⟨e, he, ((g e he).is k).2 q⟩⟩
  unfold setAddHashed setAddHashedIn
  refine wpAny_holding (wpAny_bind (wpAny_setState_of ho hd hf ?_))
  have scan : byScan (Value.str k tk) els = true := byScan_of hscan (by rw [hsz]; exact hb) hel
  dsimp only
  rw [scan, if_pos rfl]
  unfold setAddByScan
  refine wpAny_bind (wpAny_bind (wpAny_rule (wpAny_bind (wpAny_setScan_of hkey ho hd hf hel ?_))))
  cases hfi : List.findIdx? (fun e => (strKind P w).is k e.2) els.toList with
  | some j =>
    obtain ⟨hj, pj, _⟩ := List.findIdx?_eq_some_iff_getElem.mp hfi
    have hin : k ∈ l := hmem.1 ⟨_, List.getElem_mem hj, pj⟩
    have q := hQ s.heap (Heap.SameBut.refl a s.heap) (by rw [if_pos hin]; exact ⟨o, els, ep, tb, ho, hx, hd, g, hp, nd, hb, hf, hr, hl⟩)
    rw [decide_eq_true hin] at q
    dsimp only
    exact wpAny_pure (wpAny_pure q)
  | none =>
    have hout : k ∉ l := fun z => by
      obtain ⟨e, he, q⟩ := hmem.2 z
      have := List.findIdx?_eq_none_iff.mp hfi e he
      rw [q] at this
      cases this
    rw [if_neg hout, decide_eq_false hout] at hQ
    dsimp only
    have hgw : ∀ (b : Bool) {s₁ : Shared} {Q' : Unit → Shared → Prop}, Q' () s₁ → wpAny (model P w) A (match b with | true => rule "set.scan.the-table-gave-way" | false => pure ()) Q' E s₁ := fun b s₁ Q' q => by
      cases b with
      | true => exact wpAny_rule q
      | false => exact wpAny_pure q
    have pm := layNew_perm tb els ((strKind P w).hash k) (.str k tk)
    have f1 := layNew_fits tb els ((strKind P w).hash k) (.str k tk)
    have r1 := L2.layNew_ris tb els ((strKind P w).hash k) (.str k tk) hr
    have d1 := L2.layNew_led tb els ((strKind P w).hash k) (.str k tk)
    revert pm f1 r1 d1
    generalize layNew tb els ((strKind P w).hash k) (.str k tk) = laid
    obtain ⟨els1, tb1, wd, gave⟩ := laid
    intro pm f1 r1 d1
    dsimp only at pm f1 r1 d1 ⊢
    rw [Array.toList_push] at pm
    have g1 : ∀ e ∈ els1.toList, TxEl w e := fun e he => by
      rcases List.mem_append.mp (pm.mem_iff.mp he) with z | z
      · exact g e z
      · rw [List.mem_singleton.mp z]; exact ⟨k, tk, rfl⟩
    have hp1 : (els1.toList.map txOf).Perm (l ++ [k]) := by
      have q := pm.map txOf
      rw [List.map_append] at q
      exact q.trans (hp.append_right _)
    have nd1 : (l ++ [k]).Nodup := by
      rw [List.nodup_append]
      exact ⟨nd, by simp, fun x hx y hy e => hout (by rw [List.mem_singleton.mp hy] at e; exact e ▸ hx)⟩
    have hb1 : (l ++ [k]).length < scanBound := by rw [List.length_append]; exact room
    have hl1 : w.params.followText "set-order" = true ∨ tb1.led = true := hl.imp id fun z => d1.trans z
    refine wpAny_bind (hgw _ ?_)
    rw [hashByValue_scannable 8 hscan]
    by_cases hpl : tb1.plain = true ∧ True
    all_goals
      first
        | (split
           · refine wpAny_bind (wpAny_bind (wpAny_pure (wpAny_pure ?_)))
             refine setT_tail (fun b s₁ Q' q => hgw b q) ho hx hd g1 hp1 nd1 hb1 ?_ ?_ ?_ ?_
             · first | (split <;> first | exact f1 | exact SetTable.fits_plain_off f1) | exact f1
             · first | (split <;> exact r1) | exact r1
             · first | (split <;> exact hl1) | exact hl1
             · exact fun h' sb r => wpAny_pure (hQ h' sb r)
           · refine wpAny_bind (wpAny_pure ?_)
             refine setT_tail (fun b s₁ Q' q => hgw b q) ho hx hd g1 hp1 nd1 hb1 f1 r1 hl1 ?_
             exact fun h' sb r => wpAny_pure (hQ h' sb r))
end
end BP
namespace BP
open PySem PySem.Spec L2 PpSet
/-- the set of the texts l -/
def ST (w : World) (a : Addr) (l : List Str) : HO := .ext fun h => SetT w h a l
theorem st_new {P : Program} {w : World} {H : Hp} {h : Heap} {a : Addr} {l : List Str} (R : SetT w h a l) : ObjOk P w H h a (ST w a l) := by
  have ⟨o, _, _, _, ho, _⟩ := R
  exact ⟨R, ⟨o, ho⟩, fun h1 h2 p k => SetT.at p k⟩
section
variable {X : Cx}
theorem st_get {pins : List (Addr × Obj)} {σ : St} {H : Hp} {s : Shared} {a : Addr} {l : List Str} (I : Inv X pins σ H s) (ha : H a = some (ST X.w a l)) : SetT X.w s.heap a l := (I.hok a _ ha).1
theorem setT_add {P : Program} {w : World} {A : Around} {E : Value → Shared → Prop} {s : Shared} {a : Addr} {l : List Str} {k : Str} {tk : Tok} {Q : Value → Shared → Prop} (R : SetT w s.heap a l) (room : l.length + 1 < scanBound)
    (hQ : ∀ h', Heap.SameBut a s.heap h' → SetT w h' a (if k ∈ l then l else l ++ [k]) → Q .none { s with heap := h', toks := s.toks + 1 }) : wpAny (model P w) A (call (.builtin "set.add") [.ref a, .str k tk]) Q E s := by
  have hS : s.heap.SetOf (strKind P w) a _ _ := R.setOf
  have hk : (strKind P w).is k (.str k tk) = true := by
    show (k == k) = true
    exact beq_self_eq_true k
  refine wpAny_call_entry F.slot_set_add hS.typeIs F.entry_set_add ?_ (F.args_set_add_2 _ _)
  unfold Builtin.«set.add» Builtin.Frozenset.oneOther
  simp only [List.isEmpty_nil, bind_assoc]
  unfold Builtin.Frozenset.addrOf setAdd
  refine wpAny_bind (wpAny_pure ?_)
  try dsimp only
  refine wpAny_bind (wpAny_pure ?_)
  try dsimp only
  refine wpAny_bind (wpAny_holding (wpAny_bind ((strKind P w).pyHash hk ?_)))
  exact setT_add_hashed (s := { s with toks := s.toks + 1 }) R room fun h' sb r => wpAny_pure ⟨_, rfl, hQ h' sb r⟩
theorem mt_saddT : MtR X "set.add" (fun x xs H Q => ∃ (a : Addr) (k : Str) (l : List Str), x = V.ref a ∧ xs = [.str k] ∧ H a = some (ST X.w a l) ∧ l.length + 1 < scanBound ∧ Q .non (upd H a (ST X.w a (if k ∈ l then l else l ++ [k])))) := by
  intro pins s σ H x xs v us Q I rx rxs h
  obtain ⟨a, k, l, rfl, rfl, ha, room, q⟩ := h
  cases rx
  obtain ⟨u, rfl, ru⟩ := rxs.one
  obtain ⟨t, rfl⟩ := ru
  refine setT_add (st_get I ha) room fun h' sb new => ?_
  have he : ∃ u, h'.get? a = some u := let ⟨o, _, _, _, ho, _⟩ := new; ⟨o, ho⟩
  exact ⟨.non, _, I.write (e := a) (t' := s.toks + 1) (by rw [ha]; trivial) (.inl rfl) (fun b u hb hu => (sb.2 b hb).trans hu) he (st_new new), rfl, q⟩
def tScT (wd : World) (wi : TI) (g : TG) (te : TE) (vs : List Nat) : TE := fun σ H Q => wi σ H fun J H1 => ∀ D, H1 D = none → ∃ W : Nat → Nat → Hp → Prop, (∃ m, W 0 m (upd H1 D (ST wd D []))) ∧ ∀ i m H, W i m H →
  (J.stop i H ∧ Q (.ref D) H) ∨ (J.go i H ∧ ∃ Nx : Hp → Prop, (∀ H', Nx H' → ∃ m', m' < m ∧ W (i + 1) m' H') ∧ ∀ x H', J.yld i H x H' → g x (L2.wipe σ vs) H' fun σ2 H2 => L2.wipe σ2 vs = L2.wipe σ vs ∧
    te σ2 H2 fun y H3 => ∃ (k : Str) (l : List Str), y = .str k ∧ H3 D = some (ST wd D l) ∧ l.length + 1 < scanBound ∧ Nx (upd H3 D (ST wd D (if k ∈ l then l else l ++ [k]))))
/-- the empty set that is laid -/
theorem new_setT {pins : List (Addr × Obj)} {σ : St} {H : Hp} {s : Shared} {D : Addr} (I : Inv X pins σ H s) (hD : s.heap.objs.size = D) : Inv X pins σ (upd H D (ST X.w D [])) { s with heap := s.heap.push { cls := .type "set", dict := none, data := .set #[] 0 (.fresh 0 0 (!X.w.params.followText "set-order")) } } := by
  subst hD
  exact I.laid (t' := s.toks) (fun b u e => Heap.get?_push_of_some _ e) (Nat.le_refl _) (st_new (SetT.new (Heap.get?_push_size _ rfl)))
theorem pe_scT {elt tg iter : Expr} {scope : Scope} {own : List (PySem.Str × Nat)} {pos : Pos} {wi : TI} {g : TG} {te : TE} (hc : X.calm = true) (hN : X.N.Nodup) (hi : PI X tg iter wi) (ok : BlkOk X.N X.env.scope scope own)
    (hg : ∀ (s : Shared) (H : Hp) (C : Addr) (cl : List (PySem.Str × Addr)) (fp : List Addr), PG (X.blk s H scope (compEnvC scope cl C X.env) fp) tg g)
    (he : ∀ (s : Shared) (H : Hp) (C : Addr) (cl : List (PySem.Str × Addr)) (fp : List Addr), PE (X.blk s H scope (compEnvC scope cl C X.env) fp) elt te)
    (hs : ∀ x, foldedSetIterable iter X.env x = pure x := by intro _; rfl) : PE X (sc1 elt tg iter scope pos) (tScT X.w wi g te (own.map (·.2))) := by
  refine ⟨fun pins s σ H Q I h => ?_⟩
  rw [eval_SetComp]
  have hfree : ∀ y ∈ scope.names, y.2 = .free → ∃ c, X.env.cells.lookup y.1 = some c := fun y hy e => (ok.free y hy e).elim (fun k => I.ok.has _ (.inl k)) fun k => I.ok.has _ (.inr k)
  refine wpAny_comprehension_free (use := none) rfl hs (closure_ok hfree) ok.kind (fun y hy e => by rw [ok.uniq y hy, e]) (thn (hi.run pins s σ H _ I h) fun xv s1 hx1 => thn hx1 fun itv s2 h2 => ?_)
  obtain ⟨it, fp, tn, J, H2, rfl, I2, T, st2, f2, q⟩ := h2
  refine newSet_ok (newEnv_comp ?_)
  obtain ⟨D, hD⟩ : ∃ D, s2.heap.objs.size = D := ⟨_, rfl⟩
  rw [hD]
  obtain ⟨W, ⟨m0, w0⟩, turn⟩ := q D (I2.hok.fresh (Nat.le_of_eq hD))
  have I3 := new_setT I2 hD
  have lt : ∀ b ∈ fp, b < D := fun b hb => by
    obtain ⟨o, e, _⟩ := T.obj _ _ st2 b hb
    rw [← hD]; exact Heap.lt_size e
  have f3 : ∀ b ∈ fp, FpOk X pins (upd H2 D (ST X.w D [])) b := fun b hb => ⟨by rw [upd_ne (Nat.ne_of_lt (lt b hb))]; exact (f2 b hb).1, (f2 b hb).2⟩
  have st3 := T.keep _ _ (s2.heap.push { cls := .type "set", dict := none, data := .set #[] 0 (.fresh 0 0 (!X.w.params.followText "set-order")) }) st2 fun b _ o e => Heap.get?_push_of_some _ e
  revert w0 f3 st3 I3
  generalize upd H2 D (ST X.w D []) = H3
  generalize hs3 : ({ s2 with heap := s2.heap.push { cls := .type "set", dict := none, data := .set #[] 0 (.fresh 0 0 (!X.w.params.followText "set-order")) } } : Shared) = s3
  have hh3 : s2.heap.push { cls := .type "set", dict := none, data := .set #[] 0 (.fresh 0 0 (!X.w.params.followText "set-order")) } = s3.heap := by rw [← hs3]
  have hz3 : s3.heap.objs.size = D + 1 := by rw [← hh3, Heap.size_push, hD]
  rw [hh3]
  intro w0 I3 f3 st3
  have I4 := block_start I3 ok hN fun b hb => ⟨f3 b hb, by rw [hz3]; exact Nat.lt_succ_of_lt (lt b hb)⟩
  have pg := hg s3 H3 s3.heap.objs.size (cellsFrom (s3.heap.objs.size + 1) scope.names (cloFrom X.env.cells scope.names [])) fp
  have pe := he s3 H3 s3.heap.objs.size (cellsFrom (s3.heap.objs.size + 1) scope.names (cloFrom X.env.cells scope.names [])) fp
  have st4 := T.keep _ _ (pushCells (s3.heap.push { cls := .type "dict", data := .dict #[] }) scope.names) st3 fun b _ o e => pushCells_keeps _ _ _ _ (Heap.get?_push_of_some _ e)
  -- the block
  generalize hcl : cellsFrom (s3.heap.objs.size + 1) scope.names (cloFrom X.env.cells scope.names []) = cl at *
  show codeAny _ _ (.compStart (sc1 elt tg iter scope pos) 0 (.ref it) (.ref D) (compEnvC scope cl s3.heap.objs.size X.env)) (compPost (model X.prog X.w) X.A X.xe none (EP X pins σ Q) (.ref D) s3.heap.objs.size) { s3 with heap := pushCells (s3.heap.push { cls := .type "dict", data := .dict #[] }) scope.names }
  generalize hs4 : ({ s3 with heap := pushCells (s3.heap.push { cls := .type "dict", data := .dict #[] }) scope.names } : Shared) = s4 at I4 ⊢
  have st4 : tn 0 s4.heap := by rw [← hs4]; exact st4
  obtain ⟨Y, hY⟩ : ∃ Y, X.blk s3 H3 scope (compEnvC scope cl s3.heap.objs.size X.env) fp = Y := ⟨_, rfl⟩
  have hce : Y.env = compEnvC scope cl s3.heap.objs.size X.env := by rw [← hY]
  have hloc : Y.env.locals = s3.heap.objs.size := by rw [hce]; rfl
  rw [← hce]
  have yp : Y.prog = X.prog := by rw [← hY]
  have yw : Y.w = X.w := by rw [← hY]
  have yA : Y.A = X.A := by rw [← hY]
  have yK : Y.K = X.K := by rw [← hY]
  have yc : Y.calm = true := by rw [← hY]; exact hc
  have yx : Y.xe = fun _ _ => False := by rw [← hY]
  have back : ∀ {σ' : St} {H' : Hp} {s' : Shared}, Inv Y [] σ' H' s' → Inv X pins σ H' s' ∧ H' s3.heap.objs.size = none ∧ ∃ m, s'.heap.Ns s3.heap.objs.size m := fun {σ' H' s'} I' => by
    have nC : H' Y.env.locals = none := I'.free
    obtain ⟨m, hn, _⟩ := I'.loc
    rw [hloc] at nC
    have hn : s'.heap.Ns Y.env.locals m := hn
    rw [hloc] at hn
    rw [← hY] at I'
    exact ⟨I3.call' (ch := fp) I'.os I'.base I'.hok I'.bare fun b hb => ⟨(f3 b hb).2.2.2.1, (f3 b hb).2.1, (f3 b hb).2.2.2.2.1, (f3 b hb).2.2.2.2.2⟩, nC, m, hn⟩
  have stay : ∀ {σ' : St} {H' : Hp} {s' : Shared}, Inv Y [] σ' H' s' → (∀ b ∈ fp, H' b = none) → ∀ b ∈ fp, FpOk Y [] H' b := fun {σ' H' s'} I' hn b hb => by
    rw [← hY] at I' ⊢
    exact ⟨hn b hb, (I'.ok.exf b hb).1, I'.ok.exfs b hb, .inl hb, fun x c e => (I'.ok.exf b hb).2 x c e, fun p hp => absurd (show p ∈ ([] : List (Addr × Obj)) ++ [] from hp) (by simp)⟩
  rw [hY] at I4 pg pe
  have n3 : ∀ b ∈ fp, H3 b = none := fun b hb => (f3 b hb).1
  rw [← yp, ← yw, ← yK] at T
  rw [← yw] at turn
  have key : codeAny (model Y.prog Y.w) Y.A (.compLoop (sc1 elt tg iter scope pos) 0 (.ref it) (.ref D) Y.env) (compPost (model X.prog X.w) X.A X.xe none (EP X pins σ Q) (.ref D) s3.heap.objs.size) s4 := by
    refine compLoopS_any (fun n s' => ∃ i H', Inv Y [] (L2.wipe σ (own.map (·.2))) H' s' ∧ tn i s'.heap ∧ (∀ b ∈ fp, H' b = none) ∧ W i n H') (fun n s5 hW => ?_) m0 ⟨0, H3, I4, st4, n3, w0⟩
    obtain ⟨i, H5, I5, st5, n5, w5⟩ := hW
    rcases turn i n H5 w5 with ⟨stop, qq⟩ | ⟨go, Nx, hNx, step⟩
    · refine thnF (T.done Y rfl rfl rfl yc i [] s5 _ H5 (fun _ _ => False) I5 (stay I5 n5) st5 stop) fun r s6 ⟨hr, I6⟩ => ?_
      subst hr
      obtain ⟨I7, nC, m, hn⟩ := back I6
      refine ⟨m, hn, fun h'' sb => ?_⟩
      obtain ⟨_, f1, f2, f3, f4, f5⟩ := I3.fpOk (Nat.le_refl _) nC
      exact ⟨.ref D, H5, I7.turned (t' := s6.toks) (fun b o hb e => (sb.2 b hb).trans e) nC f1 f3 f4 f5, rfl, qq⟩
    · refine thnF (lap yc T pg I5 (stay I5 n5) st5 go step yx) fun r s6 ⟨u, hr, q⟩ => ?_
      subst hr
      refine thnF q fun _ s7 q7 => thnF q7 fun _ s8 ⟨pn, σ8, H8, I8, ⟨hw, q8⟩, bk⟩ => ?_
      refine wpAny_tests_nil ?_
      refine iteT ?_
      have r1 := pe.run _ s8 σ8 H8 _ I8 q8
      rw [yx] at r1
      refine thnF r1 fun kv s9 ⟨y, H9, I9, ry, k, l, ey, hS, room, nx⟩ => ?_
      subst ey
      refine wpAny_mono (mt_saddT (X := Y) _ s9 σ8 H9 (.ref D) [.str k] (.ref D) [kv] (fun _ H' => Nx H') I9 rfl (.cons ry .nil) ⟨D, k, l, rfl, rfl, hS, room, nx⟩) (fun v s10 ⟨x, H10, I10, r10, nx⟩ => ?_) (fun _ _ z => by rw [yx] at z; exact z.elim)
      have hl8 : (L2.wipe σ (own.map (·.2))).length = σ8.length := by rw [← hw, L2.wipe_length]
      have hk8 : ∀ (j : Nat) v, (L2.wipe σ (own.map (·.2)))[j]? = some (some v) → σ8[j]? = some (some v) := fun j v e => by
        rw [← hw] at e
        exact (L2.wipe_some e).1
      obtain ⟨m', hm, w'⟩ := hNx H10 nx
      obtain ⟨st', n'⟩ := bk _ _ _ I10
      exact ⟨m', hm, i + 1, H10, I10.unpinned.weak hl8 hk8, st', n', w'⟩
  rw [yp, yw, yA] at key
  rw [yp, yw] at T
  exact codeAny_compStart_set key (T.self X.A 0 _ _ _ st4 key)
end
end BP
namespace BP
open PySem PySem.Spec L2 PyProof.Rows
/-- what is new, one behind another -/
def seenT : List Str → List Str → List Str
  | [], acc => acc
  | d :: r, acc => seenT r (if d ∈ acc then acc else acc ++ [d])
theorem seenT_len : ∀ (ds acc : List Str), acc.length ≤ (seenT ds acc).length ∧ (seenT ds acc).length ≤ acc.length + ds.length
  | [], acc => ⟨Nat.le_refl _, Nat.le_refl _⟩
  | d :: r, acc => by
    have h := seenT_len r (if d ∈ acc then acc else acc ++ [d])
    simp only [seenT]
    by_cases hd : d ∈ acc
    · rw [if_pos hd] at h ⊢; simp only [List.length_cons]; omega
    · rw [if_neg hd] at h ⊢; simp only [List.length_append, List.length_cons, List.length_nil] at h ⊢; omega
section
variable {P : Program} {w : World} {A : Around} {E : Value → Shared → Prop} {s : Shared}
theorem setT_update {I : Addr} {fp wr : List Addr} {G : Array GenState → Array GenState → Prop} {n : Nat} {Pv : Nat → Value → Prop} {Sv : Nat → Shared → Prop} {R : Result → Shared → Prop} (W : WalksS P w A.in1 I fp wr G n Pv Sv) (D : Addr) (hD : D ∉ fp) (ts : List Str) (hn : n = ts.length)
    (hval : ∀ i v, Pv i v → ∃ k t, ts[i]? = some k ∧ v = .str k t) : ∀ (rest : List Str) (i : Nat) (acc : List Str) (s : Shared), ts.drop i = rest → i ≤ n → acc.length + rest.length + 1 < scanBound → Sv i s → SetT w s.heap D acc →
      (∀ s', Moved (D :: wr) G s s' → SetT w s'.heap D (seenT rest acc) → R (.ok (.ret .none)) s') → codeAny (model P w) A (.builtin "set.update.loop" ⟨[.ref D, .ref I], []⟩) R s := by
  have nw : D ∉ wr := fun h => hD (W.sub _ h)
  have more : ∀ b ∈ wr, b ∈ D :: wr := fun b hb => List.mem_cons_of_mem _ hb
  intro rest
  induction rest with
  | nil =>
    intro i acc s hr hi hb st hs hR
    have hin : i = n := by
      have := congrArg List.length hr
      simp only [List.length_drop, List.length_nil] at this
      omega
    subst hin
    refine codeAny_builtin F.entry_set_update_loop ?_
    rw [Around.under_plainId F.plain_set_update_loop _]
    show wpAny _ A.in1 (pyNext (.ref I) >>= _) _ _ s
    refine wpAny_bind (W.done s _ _ st fun s' hm => ?_)
    exact wpAny_pure (hR s' (hm.mono more) (hs.at fun o e => hm.heap D o nw e))
  | cons k rest ih =>
    intro i acc s hr hi hb st hs hR
    have hlt : i < n := by
      have := congrArg List.length hr
      simp only [List.length_drop, List.length_cons] at this
      omega
    have hk : ts[i]? = some k := by
      have := congrArg (fun l : List Str => l[0]?) hr
      simpa using this
    refine codeAny_builtin F.entry_set_update_loop ?_
    rw [Around.under_plainId F.plain_set_update_loop _]
    show wpAny _ A.in1 (pyNext (.ref I) >>= _) _ _ s
    refine wpAny_bind (W.item i s _ _ hlt st fun v s' hP st' hm => ?_)
    obtain ⟨z, t, hz, rfl⟩ := hval i v hP
    rw [hk] at hz
    cases hz
    have hs' : SetT w s'.heap D acc := hs.at fun o e => hm.heap D o nw e
    have hkey : (strKind P w).is k (.str k t) = true := by
      show (k == k) = true
      exact beq_self_eq_true k
    simp only [List.length_cons] at hb
    show wpAny _ A.in1 (holding [Value.str k t] (setAdd D (.str k t)) >>= _) _ _ s'
    refine wpAny_bind (wpAny_holding ?_)
    unfold setAdd
    refine wpAny_holding (wpAny_bind ((strKind P w).pyHash hkey (setT_add_hashed (s := { s' with toks := s'.toks + 1 }) hs' (by omega) fun h' sb hs2 => ?_)))
    have hl : (if k ∈ acc then acc else acc ++ [k]).length ≤ acc.length + 1 := by
      split
      · omega
      · simp
    refine wpAny_pure ⟨plainId_quiet F.plain_set_update_loop _, ih (i + 1) _ _ ?_ hlt (by omega) (W.frame _ s' _ _ st' (Nat.le_succ _) fun b hb' o e => ?_) hs2 fun s'' hm2 hs3 => ?_⟩
    · have := congrArg List.tail hr
      simpa [List.tail_drop] using this
    · rw [sb.2 b (fun h : b = D => hD (by rw [← h]; exact hb'))]; exact e
    · refine hR s'' (Moved.trans W.gtrans ((hm.mono more).then_heap (Nat.le_succ _) fun b o hb' e => ?_) hm2) hs3
      rw [sb.2 b (fun h : b = D => hb' (by rw [h]; exact List.mem_cons_self))]; exact e
theorem strs_item : ∀ {us : List Value} {ts : List Str}, StrsAre us ts → ∀ {i : Nat} {v : Value}, us[i]? = some v → ∃ k t, ts[i]? = some k ∧ v = .str k t
  | _, _, .nil, i, v, e => by simp at e
  | _, _, .cons k t r, 0, v, e => ⟨k, t, rfl, by simpa using e.symm⟩
  | _, _, .cons k t r, i + 1, v, e => by
    obtain ⟨k', t', h1, h2⟩ := strs_item r (i := i) (by simpa using e)
    exact ⟨k', t', by simpa using h1, h2⟩
/-- the empty set -/
abbrev set0 (w : World) : Obj := { cls := .type "set", dict := none, data := .set #[] 0 (.fresh 0 0 (!w.params.followText "set-order")) }
set_option maxHeartbeats 8000000 in
theorem call_setT {l : Addr} {items : Array Value} (ts : List Str) {Q : Value → Shared → Prop} (hh : A.handled = none) (hl : s.heap.IsList l items) (hit : StrsAre items.toList ts) (hb : ts.length + 1 < scanBound)
    (h : ∀ (h' : Heap) (tk : Nat), SetT w h' s.heap.objs.size (seenT ts []) → (∀ b o, s.heap.get? b = some o → h'.get? b = some o) → Q (.ref s.heap.objs.size) { s with heap := h', toks := tk }) :
    wpAny (model P w) A (call (.type "set") [.ref l]) Q E s := by
  have hisz : items.size = ts.length := by
    have q := hit.length
    rw [Array.length_toList] at q
    exact q
  obtain ⟨c, tl, hmro⟩ := F.called_set.mro
  have hmade := F.called_set.made
  have hsub := F.called_set.sub
  refine wpAny_call (codeAny_of_tree ?_)
  show wpAny _ _ (callAny (.type "set") _) _ _ _
  refine wpAny_pure ⟨Code.quiet_builtin _ (by decide +kernel), codeAny_builtin F.entry_type_call ?_⟩
  rw [Around.under_plain (weight_type_call_type "set" [.ref l] []) rfl]
  have h1 := F.called_set.notType
  have h2 := F.called_set.canCreate
  have hct := F.typeCall_set_1 (.ref l)
  repeat (any_goals (first | assumption | wp_step))
  refine codeAny_mono (code_set_led1 (.ref l) (E := E) (Q₁ := fun obj s₁ => obj = .ref s.heap.objs.size ∧ s₁ = { s with heap := s.heap.push (set0 w) }) ⟨rfl, rfl⟩) fun r s₁ hr => ?_
  cases r with
  | error e => exact hr
  | ok fl =>
    cases fl with
    | ret obj =>
      obtain ⟨rfl, rfl⟩ := hr
      have hS : (s.heap.push (set0 w)).get? s.heap.objs.size = some (set0 w) := Heap.get?_push_size _ rfl
      have hT : Shared.TypeIs { s with heap := s.heap.push (set0 w) } (.ref s.heap.objs.size) "set" := ⟨_, hS, rfl⟩
      have hli := F.called_set.init.lookup
      have hbi := F.called_set.init.bind (.ref s.heap.objs.size)
      repeat (any_goals (first | assumption | wp_step))
      refine codeAny_mono (codeAny_call_builtin (R := wants (fun r s₂ => r = .none ∧ ∃ h' tk, s₂ = { s with heap := h', toks := tk } ∧ SetT w h' s.heap.objs.size (seenT ts []) ∧ (∀ b o, s.heap.get? b = some o → h'.get? b = some o)) E) F.called_set.init.plain F.entry_set_init (check_set_init_1 hT ?_)) fun r₂ s₂ hr₂ => ?_
      · obtain ⟨ol, hol, hcl, nl, hdl⟩ := hl
        obtain ⟨ocls, odict, odata, oslots⟩ := ol
        simp only at hcl hdl
        subst hcl hdl
        have hol' : (s.heap.push (set0 w)).get? l = some { cls := .type "list", dict := odict, data := .seq items nl, slots := oslots } := Heap.get?_push_of_some _ hol
        have hsls := F.sub_list_set
        have hslf := F.sub_list_frozenset
        have hne : (Value.type "list" == Value.type "dict") = false := by decide
        have hl1 : (s.heap.push (set0 w)).IsList l items := ⟨_, hol', rfl, nl, rfl⟩
        unfold Builtin.«set.__init__» noKeywords Builtin.Frozenset.updateFrom
        generalize hPI : pyIter = PI
        wp_walk
        subst hPI
        have hlS : l < s.heap.objs.size := Heap.lt_size hol
        have hsz : (s.heap.push (set0 w)).objs.size = s.heap.objs.size + 1 := Heap.size_push ..
        have hneI : l ≠ (s.heap.push (set0 w)).objs.size := by
          rw [hsz]
          exact Nat.ne_of_lt (Nat.lt_succ_of_lt hlS)
        have nD : s.heap.objs.size ∉ [(s.heap.push (set0 w)).objs.size, l] := by
          rw [hsz]
          simp only [List.mem_cons, List.not_mem_nil, or_false, not_or]
          exact ⟨Nat.ne_of_lt (Nat.lt_succ_self _), Nat.ne_of_gt hlS⟩
        have hval : ∀ (i : Nat) (v : Value), items[i]? = some v → ∃ k t, ts[i]? = some k ∧ v = .str k t := fun i v hv => strs_item hit (by rw [Array.getElem?_toList]; exact hv)
        refine wpAny_pyIter_list hl1 (wpAny_bind (wpAny_runValue ?_))
        refine setT_update ((Walks.list (by simp [hh]) _ l hneI items).toS) s.heap.objs.size nD ts hisz hval ts 0 [] _ rfl (Nat.zero_le _) (by simpa using hb) ⟨⟨_, Heap.get?_push_size _ rfl, rfl, rfl⟩, hl1.push _⟩ (SetT.new (Heap.get?_push_of_some _ hS)) ?_
        intro s' hm hS'
        obtain ⟨h', g2, d', tk', os'⟩ := s'
        have eg : g2 = s.gens := hm.gens
        have ed : d' = s.drawn := hm.drawn
        have eo : os' = s.os := hm.os
        subst eg ed eo
        refine wpAny_pure ?_
        refine wpAny_pure ⟨rfl, h', tk', rfl, hS', fun b o e => ?_⟩
        have hb0 : b < s.heap.objs.size := Heap.lt_size e
        exact hm.heap b o (by rw [hsz]; simp only [List.mem_cons, List.not_mem_nil, or_false, not_or]; exact ⟨Nat.ne_of_lt hb0, Nat.ne_of_lt (Nat.lt_succ_of_lt hb0)⟩) (Heap.get?_push_of_some _ (Heap.get?_push_of_some _ e))
      · cases r₂ with
        | error e => exact hr₂
        | ok fl₂ =>
          cases fl₂ with
          | ret r =>
            obtain ⟨rfl, h', tk, rfl, hS', hk'⟩ := hr₂
            repeat (any_goals (first | assumption | wp_step))
            exact h _ _ hS' hk'
          | _ => exact hr₂.elim
    | _ => exact hr.elim
end
end BP
namespace BP
open PySem PySem.Spec L2 PyProof.Rows
section
variable {X : Cx}
/-- sorted(s), s a set of fewer than 64 texts -/
theorem cr_sortedT (hc : X.calm = true) : CallR X (.builtin "sorted") (fun xs H Q => ∃ (a : Addr) (l : List Str), xs = [.ref a] ∧ H a = some (ST X.w a l) ∧ l.length < 64 ∧ ∀ (ys : List Str) (p : Addr), ys.Perm l → PyProof.Rows.sortedS ys = true → H p = none → Q (.ref p) (upd H p (.lst (ys.map V.str)))) := by
  intro pins s σ H xs us Q I r h
  obtain ⟨a, l, rfl, ha, h64, q⟩ := h
  obtain ⟨o, els, ep, tb, ho, hx, hd, g, hp, nd, hb, hf, hr, hl⟩ := st_get I ha
  obtain ⟨u, rfl, ru⟩ := vals1 r
  have ru : u = .ref a := ru
  subst ru
  have hsz : els.size = l.length := SetT.size hp
  refine Calls.call_function_entry PyProof.Rows.kind_sorted PyProof.Rows.plain_sorted PyProof.Rows.entry_sorted (PyProof.Rows.args_sorted1 _) ?_
  unfold Builtin.«sorted»
  refine wpAny_bind (m := checkCount "sorted" 1 1 _) (wpAny_pure (wpAny_bind (collect_set (A := X.A.in1) (I.ok.hd hc) ⟨o, ho, hx.1, hd⟩ hf (by rw [hsz]; exact hb) hr hl fun s1 vs k1 hz g1 o1 pm => ?_)))
  have hvl : vs.length = l.length := by rw [pm.length_eq, List.length_map, Array.length_toList, hsz]
  let tv : Value → Str := fun v => match v with
    | .str k _ => k
    | _ => ⟨#[]⟩
  have hS : StrsAre vs (vs.map tv) := by
    have all : ∀ v ∈ vs, ∃ k t, v = Value.str k t := fun v hv => by
      obtain ⟨e, he, q⟩ := List.mem_map.mp (pm.mem_iff.mp hv)
      obtain ⟨k, t, rfl⟩ := g e he
      exact ⟨k, t, q.symm⟩
    clear pm hvl
    induction vs with
    | nil => exact .nil
    | cons v r ih =>
      obtain ⟨k, t, rfl⟩ := all v (by simp)
      exact .cons k t (ih fun v hv => all v (by simp [hv]))
  have pk : (vs.map tv).Perm l := by
    have q := pm.map tv
    rw [List.map_map] at q
    exact q.trans hp
  refine wpAny_bind (wpAny_newList ?_ (by rw [hvl, sizeLine_eq]; omega))
  have hoL : (s1.heap.push (PyProof.Rows.seqObj "list" vs.toArray 0)).get? s1.heap.objs.size = some (PyProof.Rows.seqObj "list" vs.toArray 0) := Heap.get?_push_size _ rfl
  refine wpAny_bind (wpAny_holding (wpAny_call_entry PyProof.Rows.slot_list_sort ⟨_, hoL, rfl⟩ PyProof.Rows.entry_list_sort (PyProof.Rows.list_sort_treeK PyProof.Rows.strKind_oneLt (s := { s1 with heap := s1.heap.push (PyProof.Rows.seqObj "list" vs.toArray 0) }) hoL hS.keysOf (fun v₁ v₂ rest e => PyProof.Rows.keyKind_strs (by rw [← e]; exact hS)) (by rw [hvl]; exact h64) fun st' hp' hs' => ⟨_, rfl, ?_⟩) (PyProof.Rows.args_list_sort _)))
  obtain ⟨ys, g1', g2, g3⟩ := PyProof.Rows.sorted_out_str hS hp' hs'
  obtain ⟨c', hc'⟩ := PyProof.Rows.sortedHeap_at (vs := vs) (out := (PyProof.Rows.arrOf st').map (·.2)) hoL
  have hlen : (ys.map V.str).length ≤ sizeLine := by
    rw [List.length_map, g2.length_eq, List.length_map, hvl, sizeLine_eq]
    omega
  have hn : H s1.heap.objs.size = none := I.hok.fresh hz
  have kept : ∀ b u, s.heap.get? b = some u → (PyProof.Rows.sortedHeap (s1.heap.push (PyProof.Rows.seqObj "list" vs.toArray 0)) s1.heap.objs.size vs ((PyProof.Rows.arrOf st').map (·.2))).get? b = some u := fun b u e => by
    have q1 := k1 b u e
    have hlt := Heap.lt_size q1
    rw [PyProof.Rows.sortedHeap_old (Nat.ne_of_lt hlt) (by rw [size_push']; exact Nat.lt_succ_of_lt hlt)]
    exact Heap.get?_push_of_some _ q1
  have J : Inv X pins σ (upd H s1.heap.objs.size (.lst (ys.map V.str))) { s with heap := PyProof.Rows.sortedHeap (s1.heap.push (PyProof.Rows.seqObj "list" vs.toArray 0)) s1.heap.objs.size vs ((PyProof.Rows.arrOf st').map (·.2)), gens := s1.gens, drawn := s1.drawn, toks := s1.toks } :=
    I.call (ch := []) (Un.laid kept hz hn) (I.hok.laid kept hz ⟨hlen, ((PyProof.Rows.arrOf st').map (·.2)).toList, c', vals_of_strs g1', by rw [Array.toArray_toList]; exact hc'⟩) (by rw [g1]; exact I.bare) (fun _ z => nomatch z)
  obtain ⟨hp1, gn1, dr1, tk1, os1⟩ := s1
  have o1 : os1 = s.os := o1
  subst o1
  exact wpAny_pure ⟨_, rfl, .ref hp1.objs.size, _, J, rfl, q ys _ (g2.trans pk) g3 hn⟩
end
end BP
namespace BP
open PySem PySem.Spec L2
/-- x in a list of plain data -/
def oInL (x y : D) : Option D := match y with
  | .lst ds => if plainD 8 x = true ∧ plainD 9 (.lst ds) = true then some (.bl (decide (x ∈ ds))) else none
  | _ => none
def oNotInL (x y : D) : Option D := match y with
  | .lst ds => if plainD 8 x = true ∧ plainD 9 (.lst ds) = true then some (.bl (!decide (x ∈ ds))) else none
  | _ => none
/-- d == {} -/
def oEqE (x y : D) : Option D := match x, y with
  | .dct kvs, .dct [] => some (.bl (decide (kvs = [])))
  | _, _ => none
def strsOf : List D → Option (List Str)
  | [] => some []
  | .str b :: r => (strsOf r).map (b :: ·)
  | _ => none
theorem strsOf_map : ∀ {ds : List D} {ss : List Str}, strsOf ds = some ss → ds = ss.map .str
  | [], _, h => by cases h; rfl
  | .str b :: r, _, h => by
    obtain ⟨ss, h1, h2⟩ := Option.map_eq_some_iff.mp h
    subst h2
    rw [List.map_cons, ← strsOf_map h1]
  | .non :: _, _, h => by cases h
  | .bl _ :: _, _, h => by cases h
  | .int _ :: _, _, h => by cases h
  | .tup _ :: _, _, h => by cases h
  | .lst _ :: _, _, h => by cases h
  | .dct _ :: _, _, h => by cases h
  | .dtt _ :: _, _, h => by cases h
  | .obj _ _ :: _, _, h => by cases h
theorem map_strsOf : ∀ ss : List Str, strsOf (ss.map .str) = some ss
  | [] => rfl
  | b :: r => by show (strsOf (r.map .str)).map (b :: ·) = _; rw [map_strsOf r]; rfl
/-- the texts in their order -/
def insT (x : Str) : List Str → List Str
  | [] => [x]
  | y :: r => if PyProof.Rows.sortedS [x, y] then x :: y :: r else y :: insT x r
def sortT : List Str → List Str
  | [] => []
  | x :: r => insT x (sortT r)
section
variable {K : PySem.W.Frag} {κ : Kap} {H : Hp}
theorem any_eqv {n : Nat} {d : D} (f : plainD n d = true) : ∀ ds : List D, ds.all (plainD n) = true → (ds.map (pyOf n)).any (fun z => PyData.eqv z (pyOf n d)) = decide (d ∈ ds)
  | [], _ => by simp
  | e :: r, h => by
    rw [List.all_cons, Bool.and_eq_true] at h
    rw [List.map_cons, List.any_cons, any_eqv f r h.2, eqv_of n e d h.1 f]
    rw [Bool.eq_iff_iff, Bool.or_eq_true, decide_eq_true_iff, decide_eq_true_iff, decide_eq_true_iff, List.mem_cons]
    exact ⟨fun h => h.imp Eq.symm id, fun h => h.imp Eq.symm id⟩
theorem inL_rd : ∀ x y H Q, r2 K κ oInL x y H Q → rInD K x y H Q := fun x y H Q ⟨Z, d, e, z, r1, r2, c, hc, q⟩ => by
  unfold oInL at hc
  cases e <;> dsimp only at hc <;> first | (cases hc; done) | skip
  rename_i ds
  split at hc
  · next h =>
    cases hc
    have h2 : ds.all (plainD 8) = true := by simpa [plainD] using h.2
    refine ⟨pyOf 8 d, ds.map (pyOf 8), dp1_of (hide_le Z H) 8 h.1 r1, dp1_of (hide_le Z H) 9 h.2 r2, shaped_of (by decide) h.1, shaped_of (n := 9) (by decide) h.2, ?_⟩
    rw [any_eqv h.1 ds h2]
    exact q _ H (.refl H) rfl
  · cases hc
theorem notInL_rd : ∀ x y H Q, r2 K κ oNotInL x y H Q → rNotInD K x y H Q := fun x y H Q ⟨Z, d, e, z, r1, r2, c, hc, q⟩ => by
  unfold oNotInL at hc
  cases e <;> dsimp only at hc <;> first | (cases hc; done) | skip
  rename_i ds
  split at hc
  · next h =>
    cases hc
    have h2 : ds.all (plainD 8) = true := by simpa [plainD] using h.2
    refine ⟨pyOf 8 d, ds.map (pyOf 8), dp1_of (hide_le Z H) 8 h.1 r1, dp1_of (hide_le Z H) 9 h.2 r2, shaped_of (by decide) h.1, shaped_of (n := 9) (by decide) h.2, ?_⟩
    rw [any_eqv h.1 ds h2]
    exact q _ H (.refl H) rfl
  · cases hc
end
section
variable {κ : Kap} {X : Cx} {a b c e : Expr} {es : List Expr} {f fa fb fc : Ex} {g gr : Sx} {pos p p2 p3 apos mpos : Pos} {k : Nat}
theorem or_inL (kn : Kn X k) : OpR X (compareOp .In) (rInD X.K) := op_inD (by have := kn.room.un; omega)
theorem or_notInL (kn : Kn X k) : OpR X (compareOp .NotIn) (rNotInD X.K) := op_notInD (by have := kn.room.un; omega)
theorem op_eqE (hu : X.A.units < cLine) : OpR X (compareOp .Eq) (fun x y H Q => ∃ a b kvs, x = .ref a ∧ y = .ref b ∧ Rd H a (.dK kvs) ∧ Rd H b (.dK []) ∧ Q (.bl (decide (kvs = []))) H) := by
  intro pins s σ H x y v u Q I rx ry h
  obtain ⟨a, b, ks, rfl, rfl, ea, eb, q⟩ := h
  obtain rfl : v = Value.ref a := rx
  obtain rfl : u = Value.ref b := ry
  obtain ⟨_, ya, va, ra, da⟩ := dk_rd I.hok ea
  obtain ⟨_, yb, vb, rb, db⟩ := dk_rd I.hok eb
  have hb : vb.length = 0 := by rw [← rb.length]; rfl
  have hl : ks.length = va.length := ra.length
  refine PySem.W.keq_eq (knd := mixKind X.prog X.w) (r := true) ya yb da db hu (fun e => ?_) (fin_bl I q ?_)
  · have : va = [] := List.eq_nil_of_length_eq_zero (by rw [e, hb])
    subst this
    exact .nil
  · rw [hb, Bool.and_true, ← hl]
    cases ks <;> simp
theorem eqE_rd {K : PySem.W.Frag} : ∀ x y H Q, r2 K κ oEqE x y H Q → (∃ a b kvs, x = .ref a ∧ y = .ref b ∧ Rd H a (.dK kvs) ∧ Rd H b (.dK []) ∧ Q (.bl (decide (kvs = []))) H) := fun x y H Q ⟨Z, d, e, z, r1, r2, c, hc, q⟩ => by
  unfold oEqE at hc
  split at hc
  · next kvs =>
    cases hc
    obtain ⟨p1, l1, rfl, h1, k1⟩ := r1
    obtain ⟨p2, l2, rfl, h2, k2⟩ := r2
    have e2 : l2 = [] := k2
    subst e2
    refine ⟨p1, p2, l1, rfl, rfl, h1, h2, ?_⟩
    have : decide (l1 = []) = decide (kvs = []) := by
      have := repK_len k1
      cases l1 <;> cases kvs <;> simp_all
    rw [this]
    exact q _ H (.refl H) rfl
  · cases hc
theorem X_dct0 : PX κ X (.Dict [] [] pos) (xC (.dct [])) := pe_mono pe_dnewK fun σ H Q ⟨δ, Z, z, E, d, hd, q⟩ => by
  cases hd
  exact fun p hp => q _ _ (.upd hp) (new_dct z hp rfl)
structure IsC (K : PySem.W.Frag) (C : Addr) : Prop where
  ha : PySem.W.findIn K (.ref C) "__class__" = some (some (.builtin "object.__class__"))
  hn : PySem.W.specialIn K (.builtin "object.__class__") "__get__" = some (some (.builtin "getset_descriptor.__get__"))
  ht : PySem.W.takesIn K (.builtin "object.__class__") = some true
  hm : PySem.W.mroIn K C (.type "object") = some true
theorem X_isiC {x : Str} {cc : Nat} (hC : Cls X.K (κ cc)) (hi : IsC X.K (κ cc)) (hg0 : Gl X "isinstance") (hm0 : X.mg "isinstance" = none) (hg : Gl X x) (hm : X.mg x = some (.ref (κ cc))) (ha : PB κ X e f) (hdb : (x == ("__debug__" : Str)) = false := by decide)
    (he : starEach [e, .Name x p2] X.env = (false, eval e X.env) :: starEach [.Name x p2] X.env := by rfl) (he2 : starEach [.Name x p2] X.env = (false, eval (.Name x p2) X.env) :: starEach [] X.env := by rfl) (hpl : (backTo pos (starEach [.Name x p2] X.env)).any (·.1) = false := by rfl) : PX κ X (.Call (.Name "isinstance" p) [e, .Name x p2] [] pos) (x1 (oIsC cc) f) :=
  pe_mono (pe_callB call_isi hg0 hm0 PyProof.Rows.boot_isinstance (pa_cons ha (pa_cons (pe_glob (v := .ref (κ cc)) hg hm rfl hdb) pa_nil he2) he) (he := he) (hpl := hpl)) fun σ H Q ⟨δ, Z, z, E, d, hd, q⟩ => by
    obtain ⟨y, h1, h2⟩ := Option.bind_eq_some_iff.mp hd
    refine ⟨δ, Z, z, E, y, h1, fun v H' e1 r => ?_⟩
    cases y <;> simp only [oIsC] at h2 <;> first | (cases h2; done) | skip
    split at h2
    · next hc =>
      cases h2
      subst hc
      obtain ⟨a, dx, l, rfl, hp, _⟩ := r
      exact ⟨_, _, _, _, _, rfl, .own _, .base (.ins hp hC hi.ha hi.hn hi.ht hi.hm), by unfold PySem.W.kitOne; rw [if_pos (beq_self_eq_true _)], q _ H' e1 rfl⟩
    · cases h2
def tListVals (td : TE) : TE := fun σ H Q => td σ H fun x H1 => ∃ a kvs, x = V.ref a ∧ Rd H1 a (.dK kvs) ∧ ∀ p, H1 p = none → Q (.ref p) (upd H1 p (.lst (kvs.map (·.2))))
theorem vals_kv {kvs : List (Key × V)} : ∀ {vs : List (Key × Value)}, KV kvs vs → Vals (kvs.map (·.2)) (vs.map (·.2)) := fun {vs} r => by
  unfold KV at r
  induction r with
  | nil => exact .nil
  | cons h t ih => exact .cons h.2 ih
theorem pe_listVals {o : Expr} {td : TE} (hc : X.calm = true) (hg : Gl X "list") (hm : X.mg "list" = none) (hd : PE X o td) (hbase : attributeBase o "values" X.env (eval o X.env) = eval o X.env := by rfl) (hline : (apos.endLine == mpos.line) = true := by rfl)
    (hse : starEach [Expr.Call (.Attribute o "values" apos) [] [] mpos] X.env = [(false, eval (Expr.Call (.Attribute o "values" apos) [] [] mpos) X.env)] := by rfl) :
    PE X (.Call (.Name "list" p) [.Call (.Attribute o "values" apos) [] [] mpos] [] pos) (tListVals td) := by
  refine ⟨fun pins s σ H Q I h => ?_⟩
  refine wpAny_Call_Name_kw (ld_blt I hg hm PyProof.Rows.boot_list ?_ (by decide) (by decide))
  rw [hse]
  refine PySem.callWith_type1 (wpAny_Call_method0_late hbase hline (thn (hd.run pins s σ H _ I h) fun v s1 ⟨x, H1, I1, r1, a, kvs, ex, ha, q⟩ => ?_))
  subst ex
  obtain rfl : v = Value.ref a := r1
  obtain ⟨zl, hsys, vs, rel, dof⟩ := dk_rd I1.hok ha
  obtain ⟨ep, dat⟩ := dof.dictAt
  have dat' := dat
  obtain ⟨ob, es, ho, ex, hdat, hko, hpr, hnd⟩ := dat'
  refine ⟨"dict", "dict.values", F.plainAttrs_dict, F.slot_dict_values, F.type_dict_values, ⟨ob, ho, ex.1⟩, fun b e => ?_, Calls.callWith_builtin rfl (PySem.evalArgs_none ?_)⟩
  · cases e
    exact ⟨ob, ho, ex.2.1⟩
  refine call_meetsIn F.slot_dict_values ⟨ob, ho, ex.1⟩ F.entry_dict_values (F.args_dict_values_1 _) (meets_dict_values (mixKind X.prog X.w) a hsys) ⟨⟨vs, dof⟩, ?_⟩
  have k1 : ∀ b u, s1.heap.get? b = some u → (s1.heap.push { cls := .type "dict_values", data := .fields #[.ref a] }).get? b = some u := fun b u e => Heap.get?_push_of_some _ e
  have dat1 : (s1.heap.push { cls := .type "dict_values", data := .fields #[.ref a] }).DictAt (mixKind X.prog X.w) a vs ep := dat.keep k1
  have hlv : vs.length = kvs.length := (KV.length rel).symm
  refine PySem.W.kdl_call (PySem.W.kdl_values (knd := mixKind X.prog X.w) (r := s1.heap.objs.size) (d := a) (kvs := vs) (ep := ep)) (I.ok.hd hc) ⟨⟨_, Heap.get?_push_size _ rfl, rfl, rfl⟩, dat1⟩ (by rw [hlv]; exact zl) fun h' tk acc c' hk hD hacc => ?_
  have ev : acc.toList = vs.map (·.2) := PySem.W.kdl_vals_eq acc.toList (by rw [Array.length_toList]; exact hacc.1) fun j v e => hacc.2 j v (by rw [← Array.getElem?_toList]; exact e)
  have hv : Vals (kvs.map (·.2)) acc.toList := by rw [ev]; exact vals_kv rel
  have le : s1.heap.objs.size ≤ (s1.heap.push { cls := .type "dict_values", data := .fields #[.ref a] }).objs.size := by rw [Heap.size_push]; exact Nat.le_succ _
  exact ⟨.ref _, upd H1 _ (.lst (kvs.map (·.2))), I1.laid (t' := tk) (fun b u e => hk b u (k1 b u e)) le
    (show ObjOk X.prog X.w _ _ _ (.lst (kvs.map (·.2))) from ⟨by rw [List.length_map]; exact zl, acc.toList, c', hv, by rw [Array.toArray_toList]; exact hD⟩), rfl, q _ (I1.hok.fresh le)⟩
def oListV : D → Option D
  | .dct kvs => some (.lst (kvs.map (·.2)))
  | _ => none
theorem repK_v {H : Hp} : ∀ {kvs : List (D × D)} {l : List (Key × V)}, RepK κ H kvs l → Reps κ H (kvs.map (·.2)) (l.map (·.2))
  | [], l, h => by subst h; rfl
  | (_, _) :: r, l, ⟨k, v, t, e, e2, h3, h⟩ => by subst e e2; exact ⟨v, _, rfl, h3, repK_v h⟩
theorem X_listV (kn : Kn X k) (hg : Gl X "list") (hm : X.mg "list" = none) (ha : PB κ X e f) (hbase : attributeBase e "values" X.env (eval e X.env) = eval e X.env := by rfl) (hline : (apos.endLine == mpos.line) = true := by rfl)
    (hse : starEach [Expr.Call (.Attribute e "values" apos) [] [] mpos] X.env = [(false, eval (Expr.Call (.Attribute e "values" apos) [] [] mpos) X.env)] := by rfl) : PX κ X (.Call (.Name "list" p) [.Call (.Attribute e "values" apos) [] [] mpos] [] pos) (x1 oListV f) :=
  pe_mono (pe_listVals kn.calm hg hm ha hbase hline hse) fun σ H Q ⟨δ, Z, z, E, d, hd, q⟩ => by
    obtain ⟨y, h1, h2⟩ := Option.bind_eq_some_iff.mp hd
    refine ⟨δ, Z, z, E, y, h1, fun v H' e1 r => ?_⟩
    cases y <;> simp only [oListV] at h2 <;> first | (cases h2; done) | skip
    cases h2
    obtain ⟨a, l, rfl, hp, rk⟩ := r
    exact ⟨a, l, rfl, hp, fun p hp => q _ _ (e1.trans (.upd hp)) (new_lst (z.ext e1) hp (repK_v rk))⟩
end
end BP
namespace BP
open PySem PySem.Spec L2
abbrev Vx := En → Option (List Str)
def tSV (κ : Kap) (K : PySem.W.Frag) (F : Vx) : TE := fun σ H Q => ∃ (δ : En) (Z : Addr → Prop), ZOk Z H ∧ EnvR K κ H Z σ δ ∧ ∃ l, F δ = some l ∧ ∀ D H', Ext H H' → H' D = some (ST κ.wd D l) → Q (.ref D) H'
abbrev PV (κ : Kap) (X : Cx) (e : Expr) (F : Vx) : Prop := PE X e (tSV κ X.K F)
def vSc (src : Sx) (w : List Nat) (g : Gx) (f : Ex) : Vx := fun δ => (src δ).bind fun ds => (cL g tTrue f (δ.wipe w) ds).bind fun ys => (strsOf ys).bind fun ss => if ss.length ≤ 4000 then some (seenT ss []) else none
def vSet (f : Ex) : Vx := fun δ => (f δ).bind fun d => match d with
  | .lst ds => (strsOf ds).bind fun ss => if ss.length ≤ 4000 then some (seenT ss []) else none
  | _ => none
def xSort (F : Vx) : Ex := fun δ => (F δ).bind fun l => if l.length < 64 then some (.lst ((sortT l).map .str)) else none
def oSortD : D → Option D
  | .dct kvs => (strsOf (kvs.map (·.1))).bind fun ks => if ks.length < 64 then some (.lst ((sortT ks).map .str)) else none
  | _ => none
def cDc (g : Gx) (p : Tx) (fk fv : Ex) (δ : En) : List D → List (D × D) → Option (List (D × D))
  | [], m => some m
  | d :: r, m => (g d δ).bind fun δ' => (p δ').bind fun b => if b then (fk δ').bind fun k => (fv δ').bind fun v => if keyOk k = true then cDc g p fk fv δ r (dPut k v m) else none else cDc g p fk fv δ r m
def xDc (src : Sx) (w : List Nat) (g : Gx) (p : Tx) (fk fv : Ex) : Ex := fun δ => (src δ).bind fun ds => if ds.length ≤ most then (cDc g p fk fv (δ.wipe w) ds []).map .dct else none
theorem two_sorted (x y : Str) : PyProof.Rows.sortedS [x, y] = !decide (y.cps.toList < x.cps.toList) := by
  show (!ltCps y.cps.toList x.cps.toList && PyProof.Rows.risingS y []) = _
  rw [PyProof.Rows.ltCps_eq]
  show (_ && true) = _
  rw [Bool.and_true]
def leT (x y : Str) : Prop := ¬ y.cps.toList < x.cps.toList
theorem leT_refl (x : Str) : leT x x := List.lt_irrefl _
theorem leT_total (x y : Str) : leT x y ∨ leT y x := by
  by_cases h : y.cps.toList < x.cps.toList
  · exact .inr (List.lt_asymm h)
  · exact .inl h
theorem leT_trans {x y z : Str} (a : leT x y) (b : leT y z) : leT x z := by
  have a' : x.cps.toList ≤ y.cps.toList := List.not_lt.mp a
  have b' : y.cps.toList ≤ z.cps.toList := List.not_lt.mp b
  exact List.not_lt.mpr (List.le_trans a' b')
theorem leT_anti {x y : Str} (a : leT x y) (b : leT y x) : x = y := by
  have e : x.cps.toList = y.cps.toList := List.le_antisymm (List.not_lt.mp a) (List.not_lt.mp b)
  exact Str.ext' (Array.toList_inj.mp e)
theorem rising_pw : ∀ (l : List Str) (p : Str), PyProof.Rows.risingS p l = true → (p :: l).Pairwise leT
  | [], p, _ => List.pairwise_singleton _ _
  | x :: r, p, h => by
    have h' : (!ltCps x.cps.toList p.cps.toList && PyProof.Rows.risingS x r) = true := h
    rw [Bool.and_eq_true, Bool.not_eq_true', PyProof.Rows.ltCps_eq, decide_eq_false_iff_not] at h'
    have ih := rising_pw r x h'.2
    refine List.pairwise_cons.mpr ⟨fun y hy => ?_, ih⟩
    rcases List.mem_cons.mp hy with rfl | hy
    · exact h'.1
    · exact leT_trans h'.1 ((List.pairwise_cons.mp ih).1 y hy)
theorem sorted_pw : ∀ (l : List Str), PyProof.Rows.sortedS l = true → l.Pairwise leT
  | [], _ => .nil
  | x :: r, h => rising_pw r x h
theorem insT_perm (x : Str) : ∀ l : List Str, (insT x l).Perm (x :: l)
  | [] => .refl _
  | y :: r => by
    unfold insT
    split
    · exact .refl _
    · exact ((insT_perm x r).cons y).trans (.swap x y r)
theorem sortT_perm : ∀ l : List Str, (sortT l).Perm l
  | [] => .refl _
  | x :: r => (insT_perm x (sortT r)).trans ((sortT_perm r).cons x)
theorem insT_pw (x : Str) : ∀ l : List Str, l.Pairwise leT → (insT x l).Pairwise leT
  | [], _ => List.pairwise_singleton _ _
  | y :: r, h => by
    unfold insT
    obtain ⟨h1, h2⟩ := List.pairwise_cons.mp h
    split
    · next q =>
      rw [two_sorted, Bool.not_eq_true', decide_eq_false_iff_not] at q
      refine List.pairwise_cons.mpr ⟨fun z hz => ?_, h⟩
      rcases List.mem_cons.mp hz with rfl | hz
      · exact q
      · exact leT_trans q (h1 z hz)
    · next q =>
      rw [two_sorted, Bool.not_eq_true', decide_eq_false_iff_not, Decidable.not_not] at q
      refine List.pairwise_cons.mpr ⟨fun z hz => ?_, insT_pw x r h2⟩
      rcases List.mem_cons.mp ((insT_perm x r).mem_iff.mp hz) with rfl | hz
      · exact List.lt_asymm q
      · exact h1 z hz
theorem sortT_pw : ∀ l : List Str, (sortT l).Pairwise leT
  | [] => .nil
  | x :: r => insT_pw x _ (sortT_pw r)
theorem pw_uniq : ∀ {a b : List Str}, a.Perm b → a.Pairwise leT → b.Pairwise leT → a = b
  | [], b, p, _, _ => (List.Perm.nil_eq p)
  | x :: r, [], p, _, _ => absurd p.length_eq (by simp)
  | x :: r, y :: t, p, h1, h2 => by
    obtain ⟨a1, a2⟩ := List.pairwise_cons.mp h1
    obtain ⟨b1, b2⟩ := List.pairwise_cons.mp h2
    have e : x = y := by
      have mx : x ∈ y :: t := p.mem_iff.mp (by simp)
      have my : y ∈ x :: r := p.mem_iff.mpr (by simp)
      rcases List.mem_cons.mp mx with q | mx
      · exact q
      rcases List.mem_cons.mp my with q | my
      · exact q.symm
      exact leT_anti (a1 y my) (b1 x mx)
    subst e
    rw [pw_uniq (List.Perm.cons_inv p) a2 b2]
theorem sort_of {ys l : List Str} (p : ys.Perm l) (s : PyProof.Rows.sortedS ys = true) : ys = sortT l := pw_uniq (p.trans (sortT_perm l).symm) (sorted_pw ys s) (sortT_pw l)
theorem reps_txt {κ : Kap} {H : Hp} : ∀ l : List Str, Reps κ H (l.map .str) (l.map V.str)
  | [] => rfl
  | i :: r => ⟨.str i, _, rfl, rfl, reps_txt r⟩
theorem txt_reps {κ : Kap} {H : Hp} : ∀ {l : List Str} {vs : List V}, Reps κ H (l.map .str) vs → vs = l.map V.str
  | [], _, h => h
  | i :: r, _, ⟨v, t, e, q, h⟩ => by subst e; rw [txt_reps h, show v = V.str i from q]; rfl
section
variable {K : PySem.W.Frag} {κ : Kap} {wd : World}
theorem scT_rd {g : Gx} {ss w : List Nat} {f : Ex} {σ : L2.St} {δ : En} {Z : Addr → Prop} {J : It} {H1 : Hp} {ds : List D} {ys : List Str} (z : ZOk Z H1) (E : EnvR K κ H1 Z σ δ) (hlen : ds.length ≤ sizeLine) (wk : Wk κ Z J H1 ds (fun _ => True))
    (hy : cL g tTrue f (δ.wipe w) ds = some (ys.map .str)) (hm : ys.length ≤ 4000) (hss : ∀ i ∈ ss, i ∈ w) {D : Addr} (hD : H1 D = none) {Qd : Hp → Prop} (hq : ∀ H', Ext H1 H' → H' D = some (ST wd D (seenT ys [])) → Qd H') :
    ∃ W : Nat → Nat → Hp → Prop, (∃ m, W 0 m (upd H1 D (ST wd D []))) ∧ ∀ i m H, W i m H → (J.stop i H ∧ Qd H) ∨ (J.go i H ∧ ∃ Nx : Hp → Prop, (∀ H', Nx H' → ∃ m', m' < m ∧ W (i + 1) m' H') ∧ ∀ x H', J.yld i H x H' →
      tPG K κ g ss x (L2.wipe σ w) H' fun σ2 H2 => L2.wipe σ2 w = L2.wipe σ w ∧
        tPX K κ f σ2 H2 fun y H3 => ∃ (k : Str) (l : List Str), y = .str k ∧ H3 D = some (ST wd D l) ∧ l.length + 1 < scanBound ∧ Nx (upd H3 D (ST wd D (if k ∈ l then l else l ++ [k])))) := by
  have hz : ∀ a, H1 a ≠ none → (Z a ∨ a = D) → Z a := fun a h q => q.resolve_right fun e => h (by rw [e]; exact hD)
  have E1 : EnvR K κ H1 (fun a => Z a ∨ a = D) (L2.wipe σ w) (δ.wipe w) := (E.wipe w).add hD
  let Ac : List Str → List Str → Hp → Prop := fun rest acc H => Ext H1 H ∧ H D = some (ST wd D acc) ∧ seenT rest acc = seenT ys []
  refine ⟨fun i m H => m = ds.length - i ∧ i ≤ ds.length ∧ ∃ rest acc : List Str, cL g tTrue f (δ.wipe w) (ds.drop i) = some (rest.map .str) ∧ Ac rest acc H, ⟨ds.length, by simp, Nat.zero_le _, ys, [], by simpa using hy, .upd hD, upd_same, rfl⟩, ?_⟩
  rintro i m H ⟨rfl, hi, rest, acc, hc, e, hd, hs⟩
  have zz := zok_D z e hd fun _ => nofun
  obtain ⟨go, stop⟩ := wk _ i H hz zz fun a o _ h => e a o h
  by_cases hlt : i < ds.length
  · have hg : ds[i]? = some ds[i] := by simp [hlt]
    obtain ⟨hgo, hyld⟩ := go _ hg
    rw [List.drop_eq_getElem_cons hlt] at hc
    obtain ⟨δ', h1, h2⟩ := Option.bind_eq_some_iff.mp hc
    obtain ⟨b, h3, h4⟩ := Option.bind_eq_some_iff.mp h2
    cases h3
    rw [if_pos rfl] at h4
    obtain ⟨y, h5, h6⟩ := Option.bind_eq_some_iff.mp h4
    obtain ⟨zs, h7, h8⟩ := Option.bind_eq_some_iff.mp h6
    cases rest with
    | nil => simp at h8
    | cons t rest =>
      rw [List.map_cons] at h8
      simp only [Option.some.injEq, List.cons.injEq] at h8
      obtain ⟨rfl, rfl⟩ := h8
      refine .inr ⟨hgo, fun H' => i + 1 ≤ ds.length ∧ Ac rest (if t ∈ acc then acc else acc ++ [t]) H', fun H' n => ⟨ds.length - (i + 1), by omega, rfl, n.1, rest, _, h7, n.2⟩, fun x H' yl => ?_⟩
      obtain ⟨e2, rx⟩ := hyld x H' yl
      refine tPG_of (zz.ext e2) (E1.ext (e.trans e2)) rx h1 hss fun σ2 H2 e3 E2 w2 u2 => ⟨w2.trans (wipe_wipe σ w), δ', _, (zz.ext e2).ext e3, E2, _, h5, fun v H4 e4 r => ?_⟩
      have e24 := (e2.trans e3).trans e4
      have bound : acc.length + 1 < scanBound := by
        have h9 := (seenT_len (t :: rest) acc).1
        rw [hs] at h9
        have h10 := (seenT_len ys []).2
        simp only [List.length_nil] at h10
        unfold scanBound
        omega
      exact ⟨t, acc, r, e24 _ _ hd, bound, hlt, ext_write (e.trans e24) hD, upd_same, hs⟩
  · have hl : i = ds.length := by omega
    subst hl
    rw [List.drop_length] at hc
    have hr : rest = [] := by
      cases rest with
      | nil => rfl
      | cons _ _ => cases hc
    subst hr
    exact .inl ⟨stop rfl, hq H e (by rw [hd, ← hs]; rfl)⟩
theorem repK_more {m : List (D × D)} {l : List (Key × V)} {Z : Addr → Prop} {H : Hp} (r : RepK κ (hide Z H) m l) {kd vd : D} {y v : V} (hk : keyOk kd = true) (ry : Rep κ (hide Z H) kd y) (rv : Rep κ (hide Z H) vd v) : y = kV (keyOf kd) ∧ RepK κ (hide Z H) (dPut kd vd m) (putK l (keyOf kd) v) := by
  have e4 : kd = keyD (keyOf kd) := keyOf_ok hk
  refine ⟨rep_key (by rw [← e4]; exact ry), ?_⟩
  have := repK_put (k := keyOf kd) rv r
  rw [← e4] at this
  exact this
theorem dPut_le {k v : D} {m : List (D × D)} : (dPut k v m).length ≤ m.length + 1 := by
  unfold dPut
  split
  · rw [List.length_map]; exact Nat.le_succ _
  · rw [List.length_append]; exact Nat.le_refl _
theorem dc_rd {g : Gx} {ss w : List Nat} {pt : Tx} {fk fv : Ex} {σ : L2.St} {δ : En} {Z : Addr → Prop} {J : It} {H1 : Hp} {ds : List D} {ys : List (D × D)} (z : ZOk Z H1) (E : EnvR K κ H1 Z σ δ) (hlen : ds.length ≤ sizeLine) (wk : Wk κ Z J H1 ds (fun _ => True))
    (hy : cDc g pt fk fv (δ.wipe w) ds [] = some ys) (hm : ds.length ≤ most) (hss : ∀ i ∈ ss, i ∈ w) {D : Addr} (hD : H1 D = none) {Qd : Hp → Prop} (hq : ∀ H', Ext H1 H' → Rep κ (hide Z H') (.dct ys) (.ref D) → Qd H') :
    ∃ W : Nat → Nat → Hp → Prop, (∃ m, W 0 m (upd H1 D (.dK []))) ∧ ∀ i m H, W i m H → (J.stop i H ∧ Qd H) ∨ (J.go i H ∧ ∃ Nx : Hp → Prop, (∀ H', Nx H' → ∃ m', m' < m ∧ W (i + 1) m' H') ∧ ∀ x H', J.yld i H x H' →
      tPG K κ g ss x (L2.wipe σ w) H' fun σ2 H2 => L2.wipe σ2 w = L2.wipe σ w ∧ tPT K κ pt σ2 H2 fun b H3 =>
        if b = true then tPX K κ fk σ2 H3 fun y H4 => tPX K κ fv σ2 H4 fun v H5 => ∃ (kvs : List (Key × V)) (k : Key), y = kV k ∧ H5 D = some (.dK kvs) ∧ kvs.length < sizeLine ∧ Nx (upd H5 D (.dK (putK kvs k v))) else Nx H3) := by
  have few : most < sizeLine := by rw [sizeLine_eq]; decide
  have hz : ∀ a, H1 a ≠ none → (Z a ∨ a = D) → Z a := fun a h q => q.resolve_right fun e => h (by rw [e]; exact hD)
  have E1 : EnvR K κ H1 (fun a => Z a ∨ a = D) (L2.wipe σ w) (δ.wipe w) := (E.wipe w).add hD
  let Ac : Nat → List (BP.D × BP.D) → Hp → Prop := fun i m H => Ext H1 H ∧ ∃ l, H D = some (.dK l) ∧ RepK κ (hide (fun a => Z a ∨ a = D) H) m l ∧ m.length ≤ i
  refine ⟨fun i n H => n = ds.length - i ∧ i ≤ ds.length ∧ ∃ m, cDc g pt fk fv (δ.wipe w) (ds.drop i) m = some ys ∧ Ac i m H, ⟨ds.length, by simp, Nat.zero_le _, [], by simpa using hy, .upd hD, [], upd_same, rfl, Nat.le_refl _⟩, ?_⟩
  rintro i n H ⟨rfl, hi, m, hc, e, l, hd, hr, hml⟩
  have zz := zok_D z e hd fun _ => nofun
  obtain ⟨go, stop⟩ := wk _ i H hz zz fun a o _ h => e a o h
  by_cases hlt : i < ds.length
  · have hg : ds[i]? = some ds[i] := by simp [hlt]
    obtain ⟨hgo, hyld⟩ := go _ hg
    rw [List.drop_eq_getElem_cons hlt] at hc
    obtain ⟨δ', h1, h2⟩ := Option.bind_eq_some_iff.mp hc
    obtain ⟨b, h3, h4⟩ := Option.bind_eq_some_iff.mp h2
    refine .inr ⟨hgo, fun H' => i + 1 ≤ ds.length ∧ ∃ m', cDc g pt fk fv (δ.wipe w) (ds.drop (i + 1)) m' = some ys ∧ Ac (i + 1) m' H', fun H' n => ⟨ds.length - (i + 1), by omega, rfl, n.1, n.2⟩, fun x H' yl => ?_⟩
    obtain ⟨e2, rx⟩ := hyld x H' yl
    refine tPG_of (zz.ext e2) (E1.ext (e.trans e2)) rx h1 hss fun σ2 H2 e3 E2 w2 u2 => ⟨w2.trans (wipe_wipe σ w), δ', _, (zz.ext e2).ext e3, E2, b, h3, fun H3 e4 => ?_⟩
    have e24 := (e2.trans e3).trans e4
    have hd3 := e24 _ _ hd
    have hr3 := RepK.le (Ext.hide e24) _ _ hr
    cases b with
    | true =>
      rw [if_pos rfl] at h4
      refine iteT ?_
      obtain ⟨kd, h5, h6⟩ := Option.bind_eq_some_iff.mp h4
      obtain ⟨vd, h7, h8⟩ := Option.bind_eq_some_iff.mp h6
      split at h8
      · next hk =>
        refine ⟨δ', _, zz.ext e24, E2.ext e4, kd, h5, fun y H4 e5 ry => ⟨δ', _, (zz.ext e24).ext e5, (E2.ext e4).ext e5, vd, h7, fun v H5 e6 rv => ?_⟩⟩
        have e56 := e5.trans e6
        obtain ⟨e7, r7⟩ := repK_more (RepK.le (Ext.hide e56) _ _ hr3) hk (Rep.ext e6 ry) rv
        exact ⟨l, keyOf kd, e7, e56 _ _ hd3, by rw [repK_len hr]; omega, hlt, _, h8, ext_write (e.trans (e24.trans e56)) hD, _, upd_same, RepK.le le_write _ _ r7, Nat.le_trans dPut_le (Nat.succ_le_succ hml)⟩
      · cases h8
    | false =>
      rw [if_neg Bool.false_ne_true] at h4
      refine iteF ?_
      exact ⟨hlt, m, h4, e.trans e24, l, hd3, hr3, Nat.le_succ_of_le hml⟩
  · have hl : i = ds.length := by omega
    subst hl
    rw [List.drop_length] at hc
    cases hc
    exact .inl ⟨stop rfl, hq H e ⟨D, l, rfl, .inl (hide_some.mpr ⟨z.fresh hD, hd⟩), RepK.le (le_sub fun a h => .inl h) _ _ hr⟩⟩
end
section
variable {κ : Kap} {X : Cx} {a b c e : Expr} {es : List Expr} {f fa fb fc fk fv : Ex} {F : Vx} {g gr : Sx} {pos p p2 p3 apos : Pos} {k : Nat}
theorem SV_sc (hw : κ.wd = X.w) {elt tg iter : Expr} {scope : Scope} {own : List (PySem.Str × Nat)} {cc : Bool} {src : Sx} {g : Gx} {ss : List Nat} (kn : Kn X k) (hi : PIx κ X tg iter cc src) (ok : BlkOk X.N X.env.scope scope own)
    (hg : ∀ (s : Shared) (H : Hp) (C : Addr) (cl : List (PySem.Str × Addr)) (fp : List Addr), PGx κ (X.blk s H scope (compEnvC scope cl C X.env) fp) tg g ss)
    (he : ∀ (s : Shared) (H : Hp) (C : Addr) (cl : List (PySem.Str × Addr)) (fp : List Addr), PX κ (X.blk s H scope (compEnvC scope cl C X.env) fp) elt f) (hss : ∀ i ∈ ss, i ∈ own.map (·.2) := by decide) (hs : ∀ x, foldedSetIterable iter X.env x = pure x := by intro _; rfl) :
    PV κ X (sc1 elt tg iter scope pos) (vSc src (own.map (·.2)) g f) := pe_mono (pe_scT kn.calm kn.nd hi ok hg he hs) fun σ H Q ⟨δ, Z, z, E, l, hl, q⟩ => by
  obtain ⟨ds, h1, h2⟩ := Option.bind_eq_some_iff.mp hl
  obtain ⟨ys, h3, h4⟩ := Option.bind_eq_some_iff.mp h2
  obtain ⟨ts, h5, h6⟩ := Option.bind_eq_some_iff.mp h4
  split at h6
  · next hm =>
    cases h6
    have := strsOf_map h5
    subst this
    exact ⟨δ, Z, z, E, ds, h1, fun J H1 e1 hlen wk D hD => scT_rd (z.ext e1) (E.ext e1) hlen (wk.weak fun _ _ => trivial) h3 hm hss hD fun H' e2 r => q D H' (e1.trans e2) (by rw [hw]; exact r)⟩
  · cases h6
/-- the reading of a set while the dict that f tells is locked -/
def tSVl (K : PySem.W.Frag) (κ : Kap) (P : L2.St → Hp → V → Prop) (f : Ex) (F : Vx) : TE := fun σ H Q => ∃ (δ : En) (Z : Addr → Prop), ZOk Z H ∧ EnvR K κ H Z σ δ ∧ ∃ kvs p o l, f δ = some (.dct kvs) ∧ P σ H (.ref p) ∧ H p = some (.frz o (.dK l)) ∧ RepK κ (hide Z H) kvs l ∧ ∃ d, F δ = some d ∧ ∀ D H', Ext H H' → H' D = some (ST κ.wd D d) → Q (.ref D) H'
theorem lockedV_rd {e0 : Expr} {P : L2.St → Hp → V → Prop} (pk : PEk κ X e0 f P) (hF : ∀ δ d, F δ = some d → ∃ kvs, f δ = some (.dct kvs)) {σ : L2.St} {H : Hp} {Q : VK} (h : tSV κ X.K F σ H Q) : tSVl X.K κ P f F σ H Q ∨ tLockE (tSVl X.K κ P f F) σ H Q := by
  obtain ⟨δ, Z, z, E, d, hd, q⟩ := h
  obtain ⟨kvs, hf⟩ := hF δ d hd
  obtain ⟨v, hv, p, l, rfl, hp, rk⟩ := pk.rep σ H Z δ _ E hf
  rcases hp with hp | ⟨o, hp⟩
  · obtain ⟨nz, hp'⟩ := hide_some.mp hp
    refine .inr ⟨p, .dK l, hp', trivial, fun od => ?_⟩
    have le : Le (hide Z H) (hide Z (upd H p (.frz od (.dK l)))) := le_lock (.inl hp')
    refine ⟨δ, Z, fun a ha => ?_, E.lock hp' nz, kvs, p, od, l, hf, pk.lock _ _ _ _ _ _ hp' hv, upd_same, RepK.le le _ _ rk, d, hd, fun D H' e2 r => ?_⟩
    · obtain ⟨o, e, n⟩ := z a ha
      exact ⟨o, by rw [upd_ne (fun w => by subst w; exact nz ha)]; exact e, n⟩
    · have hl := e2 _ _ upd_same
      have hne : D ≠ p := fun q => by rw [q, hl] at r; cases r
      refine ⟨hl, q D _ (fun a o e => ?_) (by rw [upd_ne hne]; exact r)⟩
      by_cases ha : a = p
      · subst ha; rw [hp'] at e; cases e; exact upd_same
      · rw [upd_ne ha]; exact e2 a o (by rw [upd_ne ha]; exact e)
  · obtain ⟨nz, hp'⟩ := hide_some.mp hp
    exact .inl ⟨δ, Z, z, E, kvs, p, o, l, hf, hv, hp', rk, d, hd, q⟩
theorem SV_scD (hw : κ.wd = X.w) {elt tg iter e0 : Expr} {scope : Scope} {own : List (PySem.Str × Nat)} {P : L2.St → Hp → V → Prop} {h : List (D × D) → List D} {g : Gx} {ss : List Nat} {f0 : Ex} (kn : Kn X k) (pk : PEk κ X e0 f0 P) (hi : PI X tg iter (tIl X.K κ P f0 h)) (ok : BlkOk X.N X.env.scope scope own)
    (hg : ∀ (s : Shared) (H : Hp) (C : Addr) (cl : List (PySem.Str × Addr)) (fp : List Addr), PGx κ (X.blk s H scope (compEnvC scope cl C X.env) fp) tg g ss)
    (he : ∀ (s : Shared) (H : Hp) (C : Addr) (cl : List (PySem.Str × Addr)) (fp : List Addr), PX κ (X.blk s H scope (compEnvC scope cl C X.env) fp) elt f) (hss : ∀ i ∈ ss, i ∈ own.map (·.2) := by decide) (hs : ∀ x, foldedSetIterable iter X.env x = pure x := by intro _; rfl) :
    PV κ X (sc1 elt tg iter scope pos) (vSc (sDct f0 h) (own.map (·.2)) g f) := by
  have base := pe_scT (elt := elt) (tg := tg) (iter := iter) (pos := pos) (g := tPG X.K κ g ss) (te := tPX X.K κ f) kn.calm kn.nd hi ok hg he hs
  have lk : PE X (sc1 elt tg iter scope pos) (tSVl X.K κ P f0 (vSc (sDct f0 h) (own.map (·.2)) g f)) := pe_mono base fun σ H Q ⟨δ, Z, z, E, kvs, p, o, l, h1, h2, h3, h4, d, hd, q⟩ => by
    obtain ⟨ds, h5, h6⟩ := Option.bind_eq_some_iff.mp hd
    obtain ⟨ys, h7, h8⟩ := Option.bind_eq_some_iff.mp h6
    obtain ⟨ts, h9, h10⟩ := Option.bind_eq_some_iff.mp h8
    split at h10
    · next hm =>
      cases h10
      have := strsOf_map h9
      subst this
      obtain ⟨kvs', h11, h12⟩ := sDct_some h5
      rw [h1] at h11
      cases h11
      subst h12
      exact ⟨δ, Z, z, E, kvs, p, o, l, h1, h2, h3, h4, fun J hlen wk D hD => scT_rd z E hlen (wk.weak fun _ _ => trivial) h7 hm hss hD fun H' e2 r => q D H' e2 (by rw [hw]; exact r)⟩
    · cases h10
  exact pe_mono (pe_or lk (pe_lock lk)) fun σ H Q q => lockedV_rd pk (fun δ d hd => by
    obtain ⟨ds, h5, h6⟩ := Option.bind_eq_some_iff.mp hd
    obtain ⟨kvs', h9, h10⟩ := sDct_some h5
    exact ⟨kvs', h9⟩) q
theorem SV_scVals (hw : κ.wd = X.w) {elt tg e0 : Expr} {scope : Scope} {own : List (PySem.Str × Nat)} {P : L2.St → Hp → V → Prop} {g : Gx} {ss : List Nat} {f0 : Ex} (kn : Kn X k) (pk : PEk κ X e0 f0 P) (ok : BlkOk X.N X.env.scope scope own)
    (hg : ∀ (s : Shared) (H : Hp) (C : Addr) (cl : List (PySem.Str × Addr)) (fp : List Addr), PGx κ (X.blk s H scope (compEnvC scope cl C X.env) fp) tg g ss)
    (he : ∀ (s : Shared) (H : Hp) (C : Addr) (cl : List (PySem.Str × Addr)) (fp : List Addr), PX κ (X.blk s H scope (compEnvC scope cl C X.env) fp) elt f) (hss : ∀ i ∈ ss, i ∈ own.map (·.2) := by decide) (hs : ∀ x, foldedSetIterable (.Call (.Attribute e0 "values" apos) [] [] p3) X.env x = pure x := by intro _; rfl) (hbase : attributeBase e0 "values" X.env (eval e0 X.env) = eval e0 X.env := by rfl) (hline : (apos.endLine == p3.line) = true := by rfl) :
    PV κ X (sc1 elt tg (.Call (.Attribute e0 "values" apos) [] [] p3) scope pos) (vSc (sDct f0 dVals) (own.map (·.2)) g f) := SV_scD hw kn pk (I_vals pk hbase hline) ok hg he hss hs
theorem cr_setT (hc : X.calm = true) : CallR X (.type "set") (fun xs H Q => ∃ (a : Addr) (ts : List Str), xs = [.ref a] ∧ SqL X.K H a (ts.map V.str) ∧ ts.length + 1 < scanBound ∧ ∀ p, H p = none → Q (.ref p) (upd H p (ST X.w p (seenT ts [])))) := by
  intro pins s σ H xs us Q I r h
  obtain ⟨a, ts, rfl, ha, hl, q⟩ := h
  obtain ⟨u, rfl, ru⟩ := vals1 r
  have ru : u = .ref a := ru
  subst ru
  obtain ⟨its, rel, pl, hz⟩ := I.list ha
  have hS : PyProof.Rows.StrsAre its.toArray.toList ts := by
    clear q hl ha hz pl r
    induction ts generalizing its with
    | nil => cases rel; exact .nil
    | cons t r ih =>
      rw [List.map_cons] at rel
      cases rel with
      | cons h1 h2 =>
        obtain ⟨tk, rfl⟩ := h1
        exact .cons t tk (ih _ h2)
  exact call_setT ts (I.ok.hd hc) pl.isList hS hl fun h' tk hT hk => ⟨.ref s.heap.objs.size, _, I.laid (t' := tk) hk (Nat.le_refl _) (st_new hT), rfl, q _ (I.hok.fresh (Nat.le_refl _))⟩
theorem SV_set (hw : κ.wd = X.w) (kn : Kn X k) (hg : Gl X "set") (hm : X.mg "set" = none) (ha : PB κ X e f) (he : starEach [e] X.env = (false, eval e X.env) :: starEach [] X.env := by rfl) (hpl : (backTo pos (starEach [] X.env)).any (·.1) = false := by rfl) : PV κ X (.Call (.Name "set" p) [e] [] pos) (vSet f) :=
  pe_mono (pe_callTy (cr_setT kn.calm) hg hm PyProof.Rows.boot_set (pa_cons ha pa_nil he) (he := he) (hpl := hpl)) fun σ H Q ⟨δ, Z, z, E, l, hl, q⟩ => by
    obtain ⟨y, h1, h2⟩ := Option.bind_eq_some_iff.mp hl
    refine ⟨δ, Z, z, E, y, h1, fun v H' e1 r => ?_⟩
    cases y <;> dsimp only at h2 <;> first | (cases h2; done) | skip
    obtain ⟨ts, h3, h4⟩ := Option.bind_eq_some_iff.mp h2
    split at h4
    · next hm =>
      cases h4
      have := strsOf_map h3
      subst this
      obtain ⟨a, vs, rfl, hp, rs⟩ := r
      have := txt_reps rs
      subst this
      exact ⟨a, ts, rfl, hp, by unfold scanBound; omega, fun p hp => q p _ (e1.trans (.upd hp)) (by rw [hw]; exact upd_same)⟩
    · cases h4
theorem X_sort (hw : κ.wd = X.w) (kn : Kn X k) (hg : Gl X "sorted") (hm : X.mg "sorted" = none) (ha : PV κ X e F) (he : starEach [e] X.env = (false, eval e X.env) :: starEach [] X.env := by rfl) (hpl : (backTo pos (starEach [] X.env)).any (·.1) = false := by rfl) : PX κ X (.Call (.Name "sorted" p) [e] [] pos) (xSort F) :=
  pe_mono (pe_callB (cr_sortedT kn.calm) hg hm PyProof.Rows.boot_sorted (pa_cons ha pa_nil he) (he := he) (hpl := hpl)) fun σ H Q ⟨δ, Z, z, E, d, hd, q⟩ => by
    obtain ⟨l, h1, h2⟩ := Option.bind_eq_some_iff.mp hd
    split at h2
    · next h64 =>
      cases h2
      refine ⟨δ, Z, z, E, l, h1, fun D H' e1 r => ⟨D, l, rfl, by rw [← hw]; exact r, h64, fun ys p pm so hp => ?_⟩⟩
      have := sort_of pm so
      subst this
      exact q _ _ (e1.trans (.upd hp)) (new_lst (z.ext e1) hp (reps_txt _))
    · cases h2
theorem repK_txt {H : Hp} : ∀ {kvs : List (D × D)} {l : List (Key × V)} {ks : List Str}, RepK κ H kvs l → kvs.map (·.1) = ks.map .str → l.map (·.1) = ks.map Sum.inr
  | [], l, [], h, _ => by subst h; rfl
  | [], l, _ :: _, h, e => by simp at e
  | (_, _) :: r, l, [], h, e => by simp at e
  | (_, _) :: r, l, s :: ks, ⟨k, v, t, e, e2, h3, h⟩, q => by
    subst e e2
    rw [List.map_cons, List.map_cons] at q
    simp only [List.cons.injEq] at q
    rw [List.map_cons, List.map_cons, repK_txt h q.2]
    congr 1
    have q1 := q.1
    cases k with
    | inl i => cases q1
    | inr t => cases q1; rfl
theorem X_sortD (kn : Kn X k) (hg : Gl X "sorted") (hm : X.mg "sorted" = none) (ha : PB κ X e f) (he : starEach [e] X.env = (false, eval e X.env) :: starEach [] X.env := by rfl) (hpl : (backTo pos (starEach [] X.env)).any (·.1) = false := by rfl) : PX κ X (.Call (.Name "sorted" p) [e] [] pos) (x1 oSortD f) :=
  pe_mono (pe_callB (call_sortedD kn.calm) hg hm PyProof.Rows.boot_sorted (pa_cons ha pa_nil he) (he := he) (hpl := hpl)) fun σ H Q ⟨δ, Z, z, E, d, hd, q⟩ => by
    obtain ⟨y, h1, h2⟩ := Option.bind_eq_some_iff.mp hd
    refine ⟨δ, Z, z, E, y, h1, fun v H' e1 r => ?_⟩
    cases y <;> simp only [oSortD] at h2 <;> first | (cases h2; done) | skip
    obtain ⟨ks, h3, h4⟩ := Option.bind_eq_some_iff.mp h2
    split at h4
    · next h64 =>
      cases h4
      obtain ⟨a, l, rfl, hp, rk⟩ := r
      refine ⟨a, l, ks, rfl, hp, repK_txt rk (strsOf_map h3), h64, fun ys p pm so hp => ?_⟩
      have := sort_of pm so
      subst this
      exact q _ _ (e1.trans (.upd hp)) (new_lst (z.ext e1) hp (reps_txt _))
    · cases h4
theorem X_dc {kx vx tg iter : Expr} {ifs : List Expr} {scope : Scope} {own : List (Str × Nat)} {cc : Bool} {src : Sx} {g : Gx} {ss : List Nat} {pt : Tx} (kn : Kn X k) (hi : PIx κ X tg iter cc src) (ok : BlkOk X.N X.env.scope scope own)
    (hg : ∀ (s : Shared) (H : Hp) (C : Addr) (cl : List (Str × Addr)) (fp : List Addr), PGx κ (X.blk s H scope (compEnvC scope cl C X.env) fp) tg g ss) (ht : ∀ (s : Shared) (H : Hp) (C : Addr) (cl : List (Str × Addr)) (fp : List Addr), PTsx κ (X.blk s H scope (compEnvC scope cl C X.env) fp) ifs pt)
    (hk : ∀ (s : Shared) (H : Hp) (C : Addr) (cl : List (Str × Addr)) (fp : List Addr), PX κ (X.blk s H scope (compEnvC scope cl C X.env) fp) kx fk) (he : ∀ (s : Shared) (H : Hp) (C : Addr) (cl : List (Str × Addr)) (fp : List Addr), PX κ (X.blk s H scope (compEnvC scope cl C X.env) fp) vx fv) (hss : ∀ i ∈ ss, i ∈ own.map (·.2) := by decide) (hs : ∀ x, foldedSetIterable iter X.env x = pure x := by intro _; rfl) :
    PX κ X (.DictComp kx vx [⟨tg, iter, ifs, 0⟩] scope pos) (xDc src (own.map (·.2)) g pt fk fv) := pe_mono (pe_dc kn.calm kn.nd hi ok hg ht hk he hs) fun σ H Q ⟨δ, Z, z, E, d, hd, q⟩ => by
  obtain ⟨ds, h1, h2⟩ := Option.bind_eq_some_iff.mp hd
  split at h2
  · next hm =>
    obtain ⟨ys, h3, h4⟩ := Option.map_eq_some_iff.mp h2
    subst h4
    exact ⟨δ, Z, z, E, ds, h1, fun J H1 e1 hlen wk D hD => dc_rd (z.ext e1) (E.ext e1) hlen (wk.weak fun _ _ => trivial) h3 hm hss hD fun H' e2 r => q _ H' (e1.trans e2) r⟩
  · cases h2
theorem X_dcD {kx vx tg iter e0 : Expr} {ifs : List Expr} {scope : Scope} {own : List (Str × Nat)} {P : L2.St → Hp → V → Prop} {h : List (D × D) → List D} {g : Gx} {ss : List Nat} {pt : Tx} {f0 : Ex} (kn : Kn X k) (pk : PEk κ X e0 f0 P) (hi : PI X tg iter (tIl X.K κ P f0 h)) (ok : BlkOk X.N X.env.scope scope own)
    (hg : ∀ (s : Shared) (H : Hp) (C : Addr) (cl : List (Str × Addr)) (fp : List Addr), PGx κ (X.blk s H scope (compEnvC scope cl C X.env) fp) tg g ss) (ht : ∀ (s : Shared) (H : Hp) (C : Addr) (cl : List (Str × Addr)) (fp : List Addr), PTsx κ (X.blk s H scope (compEnvC scope cl C X.env) fp) ifs pt)
    (hk : ∀ (s : Shared) (H : Hp) (C : Addr) (cl : List (Str × Addr)) (fp : List Addr), PX κ (X.blk s H scope (compEnvC scope cl C X.env) fp) kx fk) (he : ∀ (s : Shared) (H : Hp) (C : Addr) (cl : List (Str × Addr)) (fp : List Addr), PX κ (X.blk s H scope (compEnvC scope cl C X.env) fp) vx fv) (hss : ∀ i ∈ ss, i ∈ own.map (·.2) := by decide) (hs : ∀ x, foldedSetIterable iter X.env x = pure x := by intro _; rfl) :
    PX κ X (.DictComp kx vx [⟨tg, iter, ifs, 0⟩] scope pos) (xDc (sDct f0 h) (own.map (·.2)) g pt fk fv) := X_locked pk (pe_mono (pe_dc kn.calm kn.nd hi ok hg ht hk he hs) fun σ H Q ⟨δ, Z, z, E, kvs, p, o, l, h1, h2, h3, h4, d, hd, q⟩ => by
    obtain ⟨ds, h5, h6⟩ := Option.bind_eq_some_iff.mp hd
    split at h6
    · next hm =>
      obtain ⟨ys, h7, h8⟩ := Option.map_eq_some_iff.mp h6
      subst h8
      obtain ⟨kvs', h9, h10⟩ := sDct_some h5
      rw [h1] at h9
      cases h9
      subst h10
      exact ⟨δ, Z, z, E, kvs, p, o, l, h1, h2, h3, h4, fun J hlen wk D hD => dc_rd z E hlen (wk.weak fun _ _ => trivial) h7 hm hss hD fun H' e2 r => q _ H' e2 r⟩
    · cases h6) fun δ d hd => by
    obtain ⟨ds, h5, h6⟩ := Option.bind_eq_some_iff.mp hd
    obtain ⟨kvs', h9, h10⟩ := sDct_some h5
    exact ⟨kvs', h9⟩
theorem X_dcKeys {kx vx e0 : Expr} {tg : Expr} {ifs : List Expr} {scope : Scope} {own : List (Str × Nat)} {Pk : L2.St → Hp → V → Prop} {g : Gx} {ss : List Nat} {pt : Tx} {f0 : Ex} (kn : Kn X k) (pk : PEk κ X e0 f0 Pk) (ok : BlkOk X.N X.env.scope scope own)
    (hg : ∀ (s : Shared) (H : Hp) (C : Addr) (cl : List (Str × Addr)) (fp : List Addr), PGx κ (X.blk s H scope (compEnvC scope cl C X.env) fp) tg g ss) (ht : ∀ (s : Shared) (H : Hp) (C : Addr) (cl : List (Str × Addr)) (fp : List Addr), PTsx κ (X.blk s H scope (compEnvC scope cl C X.env) fp) ifs pt)
    (hk : ∀ (s : Shared) (H : Hp) (C : Addr) (cl : List (Str × Addr)) (fp : List Addr), PX κ (X.blk s H scope (compEnvC scope cl C X.env) fp) kx fk) (he : ∀ (s : Shared) (H : Hp) (C : Addr) (cl : List (Str × Addr)) (fp : List Addr), PX κ (X.blk s H scope (compEnvC scope cl C X.env) fp) vx fv) (hss : ∀ i ∈ ss, i ∈ own.map (·.2) := by decide) (hs : ∀ x, foldedSetIterable e0 X.env x = pure x := by intro _; rfl) :
    PX κ X (.DictComp kx vx [⟨tg, e0, ifs, 0⟩] scope pos) (xDc (sDct f0 dKeys) (own.map (·.2)) g pt fk fv) := X_dcD kn pk (I_keys pk) ok hg ht hk he hss hs
theorem X_dcItems {kx vx e0 : Expr} {t1 t2 : Expr} {jj : Nat} {ifs : List Expr} {scope : Scope} {own : List (Str × Nat)} {Pk : L2.St → Hp → V → Prop} {g : Gx} {ss : List Nat} {pt : Tx} {f0 : Ex} (kn : Kn X k) (pk : PEk κ X e0 f0 Pk) (ok : BlkOk X.N X.env.scope scope own)
    (hg : ∀ (s : Shared) (H : Hp) (C : Addr) (cl : List (Str × Addr)) (fp : List Addr), PGx κ (X.blk s H scope (compEnvC scope cl C X.env) fp) (.Tuple [t1, t2] jj p2) g ss) (ht : ∀ (s : Shared) (H : Hp) (C : Addr) (cl : List (Str × Addr)) (fp : List Addr), PTsx κ (X.blk s H scope (compEnvC scope cl C X.env) fp) ifs pt)
    (hk : ∀ (s : Shared) (H : Hp) (C : Addr) (cl : List (Str × Addr)) (fp : List Addr), PX κ (X.blk s H scope (compEnvC scope cl C X.env) fp) kx fk) (he : ∀ (s : Shared) (H : Hp) (C : Addr) (cl : List (Str × Addr)) (fp : List Addr), PX κ (X.blk s H scope (compEnvC scope cl C X.env) fp) vx fv) (hss : ∀ i ∈ ss, i ∈ own.map (·.2) := by decide) (hs : ∀ x, foldedSetIterable (.Call (.Attribute e0 "items" apos) [] [] p3) X.env x = pure x := by intro _; rfl) (hbase : attributeBase e0 "items" X.env (eval e0 X.env) = eval e0 X.env := by rfl) (hline : (apos.endLine == p3.line) = true := by rfl) :
    PX κ X (.DictComp kx vx [⟨(.Tuple [t1, t2] jj p2), (.Call (.Attribute e0 "items" apos) [] [] p3), ifs, 0⟩] scope pos) (xDc (sDct f0 dItems) (own.map (·.2)) g pt fk fv) := X_dcD kn pk (I_items pk hbase hline) ok hg ht hk he hss hs
theorem X_meth0K {pl : Sem Bool} {m : Str} {cc : Nat} {ps : List Str} {Fs : List D → Option D} {j : Nat} {o : Expr} {fo : Ex} (kn : Kn X k) (hC : Cls X.K (κ cc)) (h : MeK X.prog X.w X.K X.mg X.base κ cc m ps j Fs) (hj : j ≤ k) (ho : PX κ X o fo) (ht : eval (.Call (.Attribute o m apos) [] [] pos) X.env = (do
      let ov ← eval o X.env
      standAt apos.atName
      let (f, first) ← holding [ov] (getMethod ov m pl)
      callWith pos f first (backTo pos (starEach [] X.env)) (backToKw pos (keywordEach [] X.env))) := by rfl) : PX κ X (.Call (.Attribute o m apos) [] [] pos) (oMeth0 cc m Fs fo) := by
  obtain ⟨fad, fd, Fo, hM, hb⟩ := h
  exact X_meth0 kn Fo hj hC hM hb ho ht
end
end BP
namespace BP
open PySem PySem.Spec L2
section
variable {X : Cx}
theorem dc2_core {pins : List (Addr × Obj)} {s : Shared} {σ : St} {H : Hp} {Q : VK} {pos' : Pos} {use : Option (Value → Sem Unit)} {Qf : Value → Shared → Prop} {kx vx tg iter tg1 iter1 : Expr} {scope : Scope} {own : List (Str × Nat)} {vs1 : List Nat} {pos : Pos} {wi wi1 : TI} {g g1 : TG} {tk tv : TE} {e0 : HO} (he0 : e0 = .dK [] ∨ e0 = .dT []) (room : X.A.units < cLine) (hc : X.calm = true) (hN : X.N.Nodup) (hi : PI X tg iter wi) (ok : BlkOk X.N X.env.scope scope own) (hv : ∀ i ∈ vs1, i ∈ own.map (·.2))
    (hg : ∀ (s : Shared) (H : Hp) (C : Addr) (cl : List (Str × Addr)) (fp : List Addr), PG (X.blk s H scope (compEnvC scope cl C X.env) fp) tg g)
    (hi1 : ∀ (s : Shared) (H : Hp) (C : Addr) (cl : List (Str × Addr)) (fp : List Addr), PI (X.blk s H scope (compEnvC scope cl C X.env) fp) tg1 iter1 wi1)
    (hg1 : ∀ (s : Shared) (H : Hp) (C : Addr) (cl : List (Str × Addr)) (fp : List Addr), PG (X.blk s H scope (compEnvC scope cl C X.env) fp) tg1 g1)
    (hk : ∀ (s : Shared) (H : Hp) (C : Addr) (cl : List (Str × Addr)) (fp : List Addr), PE (X.blk s H scope (compEnvC scope cl C X.env) fp) kx tk)
    (hx : ∀ (s : Shared) (H : Hp) (C : Addr) (cl : List (Str × Addr)) (fp : List Addr), PE (X.blk s H scope (compEnvC scope cl C X.env) fp) vx tv)
    (hs : ∀ x, foldedSetIterable iter X.env x = pure x) (hs1 : ∀ env x, foldedSetIterable iter1 env x = pure x)
    (I : Inv X pins σ H s) (h : tDc2 e0 wi g wi1 g1 tk tv (own.map (·.2)) vs1 σ H Q)
    (hRR : ∀ D C s' m H', Inv X pins σ H' s' → Q (.ref D) H' → s'.heap.Ns C m → FpOk X pins H' C → compPost (model X.prog X.w) X.A X.xe use Qf (.ref D) C (.ok .next) s') :
    wpAny (model X.prog X.w) X.A (comprehension (dc2 kx vx tg iter tg1 iter1 scope pos) scope X.env pos' newDict false (eval iter X.env) use) Qf X.xe s := by
  have hfree : ∀ y ∈ scope.names, y.2 = .free → ∃ c, X.env.cells.lookup y.1 = some c := fun y hy e => (ok.free y hy e).elim (fun k => I.ok.has _ (.inl k)) fun k => I.ok.has _ (.inr k)
  refine wpAny_comprehension_free (use := use) rfl hs (closure_ok hfree) ok.kind (fun y hy e => by rw [ok.uniq y hy, e]) (thn (hi.run pins s σ H _ I h) fun xv s1 hx1 => thn hx1 fun itv s2 h2 => ?_)
  obtain ⟨it, fp, tn, J, H2, rfl, I2, T, st2, f2, q⟩ := h2
  refine wpAny_newObj_type (newEnv_comp ?_)
  obtain ⟨D, hD⟩ : ∃ D, s2.heap.objs.size = D := ⟨_, rfl⟩
  rw [hD]
  obtain ⟨W, ⟨m0, w0⟩, turn⟩ := q D (I2.hok.fresh (Nat.le_of_eq hD))
  have I3 := new_dict I2 hD he0
  have lt : ∀ b ∈ fp, b < D := fun b hb => by
    obtain ⟨o, e, _⟩ := T.obj _ _ st2 b hb
    rw [← hD]; exact Heap.lt_size e
  have f3 : ∀ b ∈ fp, FpOk X pins (upd H2 D e0) b := fun b hb => ⟨by rw [upd_ne (Nat.ne_of_lt (lt b hb))]; exact (f2 b hb).1, (f2 b hb).2⟩
  have st3 := T.keep _ _ (s2.heap.push { cls := .type "dict", data := .dict #[] }) st2 fun b _ o e => Heap.get?_push_of_some _ e
  revert w0 f3 st3 I3
  generalize upd H2 D e0 = H3
  generalize hs3 : ({ s2 with heap := s2.heap.push { cls := .type "dict", data := .dict #[] } } : Shared) = s3
  have hh3 : s2.heap.push { cls := .type "dict", data := .dict #[] } = s3.heap := by rw [← hs3]
  have hz3 : s3.heap.objs.size = D + 1 := by rw [← hh3, Heap.size_push, hD]
  have eh : ∀ hp : Heap, ({ s2 with heap := hp } : Shared) = { s3 with heap := hp } := fun hp => by rw [← hs3]
  rw [hh3]
  intro w0 I3 f3 st3
  have I4 := block_start I3 ok hN fun b hb => ⟨f3 b hb, by rw [hz3]; exact Nat.lt_succ_of_lt (lt b hb)⟩
  have pg := hg s3 H3 s3.heap.objs.size (cellsFrom (s3.heap.objs.size + 1) scope.names (cloFrom X.env.cells scope.names [])) fp
  have pi1 := hi1 s3 H3 s3.heap.objs.size (cellsFrom (s3.heap.objs.size + 1) scope.names (cloFrom X.env.cells scope.names [])) fp
  have pg1 := hg1 s3 H3 s3.heap.objs.size (cellsFrom (s3.heap.objs.size + 1) scope.names (cloFrom X.env.cells scope.names [])) fp
  have pk := hk s3 H3 s3.heap.objs.size (cellsFrom (s3.heap.objs.size + 1) scope.names (cloFrom X.env.cells scope.names [])) fp
  have px := hx s3 H3 s3.heap.objs.size (cellsFrom (s3.heap.objs.size + 1) scope.names (cloFrom X.env.cells scope.names [])) fp
  have st4 := T.keep _ _ (pushCells (s3.heap.push { cls := .type "dict", data := .dict #[] }) scope.names) st3 fun b _ o e => pushCells_keeps _ _ _ _ (Heap.get?_push_of_some _ e)
  -- the block
  generalize hcl : cellsFrom (s3.heap.objs.size + 1) scope.names (cloFrom X.env.cells scope.names []) = cl at *
  show codeAny _ _ (.compStart (dc2 kx vx tg iter tg1 iter1 scope pos) 0 (.ref it) (.ref D) (compEnvC scope cl s3.heap.objs.size X.env)) (compPost (model X.prog X.w) X.A X.xe use Qf (.ref D) s3.heap.objs.size) { s3 with heap := pushCells (s3.heap.push { cls := .type "dict", data := .dict #[] }) scope.names }
  generalize hs4 : ({ s3 with heap := pushCells (s3.heap.push { cls := .type "dict", data := .dict #[] }) scope.names } : Shared) = s4 at I4 ⊢
  have st4 : tn 0 s4.heap := by rw [← hs4]; exact st4
  obtain ⟨Y, hY⟩ : ∃ Y, X.blk s3 H3 scope (compEnvC scope cl s3.heap.objs.size X.env) fp = Y := ⟨_, rfl⟩
  have hce : Y.env = compEnvC scope cl s3.heap.objs.size X.env := by rw [← hY]
  have hloc : Y.env.locals = s3.heap.objs.size := by rw [hce]; rfl
  rw [← hce]
  have yp : Y.prog = X.prog := by rw [← hY]
  have yw : Y.w = X.w := by rw [← hY]
  have yA : Y.A = X.A := by rw [← hY]
  have yK : Y.K = X.K := by rw [← hY]
  have yc : Y.calm = true := by rw [← hY]; exact hc
  have yx : Y.xe = fun _ _ => False := by rw [← hY]
  have back : ∀ {σ' : St} {H' : Hp} {s' : Shared}, Inv Y [] σ' H' s' → Inv X pins σ H' s' ∧ H' s3.heap.objs.size = none ∧ ∃ m, s'.heap.Ns s3.heap.objs.size m := fun {σ' H' s'} I' => by
    have nC : H' Y.env.locals = none := I'.free
    obtain ⟨m, hn, _⟩ := I'.loc
    rw [hloc] at nC
    have hn : s'.heap.Ns Y.env.locals m := hn
    rw [hloc] at hn
    rw [← hY] at I'
    exact ⟨I3.call' (ch := fp) I'.os I'.base I'.hok I'.bare fun b hb => ⟨(f3 b hb).2.2.2.1, (f3 b hb).2.1, (f3 b hb).2.2.2.2.1, (f3 b hb).2.2.2.2.2⟩, nC, m, hn⟩
  have stay : ∀ {σ' : St} {H' : Hp} {s' : Shared}, Inv Y [] σ' H' s' → (∀ b ∈ fp, H' b = none) → ∀ b ∈ fp, FpOk Y [] H' b := fun {σ' H' s'} I' hn b hb => by
    rw [← hY] at I' ⊢
    exact ⟨hn b hb, (I'.ok.exf b hb).1, I'.ok.exfs b hb, .inl hb, fun x c e => (I'.ok.exf b hb).2 x c e, fun p hp => absurd (show p ∈ ([] : List (Addr × Obj)) ++ [] from hp) (by simp)⟩
  rw [hY] at I4 pg pi1 pg1 pk px
  have n3 : ∀ b ∈ fp, H3 b = none := fun b hb => (f3 b hb).1
  rw [← yp, ← yw, ← yK] at T
  have key : codeAny (model Y.prog Y.w) Y.A (.compLoop (dc2 kx vx tg iter tg1 iter1 scope pos) 0 (.ref it) (.ref D) Y.env) (compPost (model X.prog X.w) X.A X.xe use Qf (.ref D) s3.heap.objs.size) s4 := by
    refine loop_out (hs1 Y.env) (fun n s' => ∃ i H', Inv Y [] (L2.wipe σ (own.map (·.2))) H' s' ∧ tn i s'.heap ∧ (∀ b ∈ fp, H' b = none) ∧ W i n H') (fun n s5 hW => ?_) m0 ⟨0, H3, I4, st4, n3, w0⟩
    obtain ⟨i, H5, I5, st5, n5, w5⟩ := hW
    rcases turn i n H5 w5 with ⟨stop, qq⟩ | ⟨go, Nx, hNx, step⟩
    · refine thnF (T.done Y rfl rfl rfl yc i [] s5 _ H5 (fun _ _ => False) I5 (stay I5 n5) st5 stop) fun r s6 ⟨hr, I6⟩ => ?_
      subst hr
      obtain ⟨I7, nC, m, hn⟩ := back I6
      exact hRR D s3.heap.objs.size s6 m H5 I7 qq hn (I3.fpOk (Nat.le_refl _) nC)
    · refine thnF (lap yc T pg I5 (stay I5 n5) st5 go step yx) fun r s6 ⟨u, hr, q⟩ => ?_
      subst hr
      refine thnF q fun _ s7 q7 => thnF q7 fun _ s8 ⟨pn, σ8, H8, I8, ⟨hw, q8⟩, bk⟩ => ?_
      have r1 := pi1.run _ s8 σ8 H8 _ I8 q8
      rw [yx] at r1
      refine thnF r1 fun xv s9 hx9 => thnF hx9 fun itv s10 h10 => ?_
      obtain ⟨it1, fp1, tn1, J1, H10, rfl, I10, T1, st10, f10, W1, ⟨m1, w1⟩, turn1⟩ := h10
      have hl8 : (L2.wipe σ (own.map (·.2))).length = σ8.length := by rw [← hw, L2.wipe_length]
      have hk8 : ∀ (j : Nat) v, (L2.wipe σ (own.map (·.2)))[j]? = some (some v) → (L2.wipe σ8 vs1)[j]? = some (some v) := fun j v e => by
        rw [← hw] at e
        obtain ⟨e1, e2⟩ := L2.wipe_some e
        rw [L2.wipe_out fun z => e2 (hv j z)]
        exact e1
      have lp : codeAny (model Y.prog Y.w) Y.A (.compLoop (dc2 kx vx tg iter tg1 iter1 scope pos) 1 (.ref it1) (.ref D) Y.env) (fun r s' => match r with
            | .ok _ => ∃ m, m < n ∧ ∃ i H', Inv Y [] (L2.wipe σ (own.map (·.2))) H' s' ∧ tn i s'.heap ∧ (∀ b ∈ fp, H' b = none) ∧ W i m H'
            | .error _ => False) s10 := by
        refine inner (P := [] ++ pn) (Nx := Nx) (W1 := W1) (k := m1) yc yx (by rw [yA]; exact room) T1 pg1 pk px (fun H' hn b hb => ⟨hn b hb, (f10 b hb).2⟩) (fun j k H hw1 => ?_) (fun H' s' I' nx => ?_) ⟨0, H10, I10.weak (σ' := L2.wipe σ8 vs1) (L2.wipe_length _ _) (fun j v e => (L2.wipe_some e).1), st10, fun b hb => (f10 b hb).1, w1⟩
        · exact turn1 j k H hw1
        · obtain ⟨m', hm, w'⟩ := hNx H' nx
          obtain ⟨st', n'⟩ := bk _ _ _ I'
          exact ⟨m', hm, i + 1, H', I'.unpinned.weak (hl8.trans (L2.wipe_length σ8 vs1).symm) hk8, st', n', w'⟩
      exact start_in lp (T1.self Y.A 0 _ _ _ st10 lp)
  rw [yp, yw, yA] at key
  rw [yp, yw] at T
  exact codeAny_compStart_dict key (T.self X.A 0 _ _ _ st4 key)
theorem ps_setDc2 {i : Nat} {y : Str} {py spos : Pos} {kx vx tg iter tg1 iter1 : Expr} {scope : Scope} {own : List (Str × Nat)} {vs1 : List Nat} {pos : Pos} {wi wi1 : TI} {g g1 : TG} {tk tv : TE} {e0 : HO} (he0 : e0 = .dK [] ∨ e0 = .dT []) (room : X.A.units < cLine) (hc : X.calm = true) (hN : X.N.Nodup) (hy : X.N[i]? = some y) (hyl : X.env.scope.names.lookup y = some .local)
    (hsw : swapsWith (dc2 kx vx tg iter tg1 iter1 scope pos) (some (.Name y py)) spos.line X.env = pure true) (hi : PI X tg iter wi) (ok : BlkOk X.N X.env.scope scope own) (hv : ∀ i ∈ vs1, i ∈ own.map (·.2))
    (hg : ∀ (s : Shared) (H : Hp) (C : Addr) (cl : List (Str × Addr)) (fp : List Addr), PG (X.blk s H scope (compEnvC scope cl C X.env) fp) tg g)
    (hi1 : ∀ (s : Shared) (H : Hp) (C : Addr) (cl : List (Str × Addr)) (fp : List Addr), PI (X.blk s H scope (compEnvC scope cl C X.env) fp) tg1 iter1 wi1)
    (hg1 : ∀ (s : Shared) (H : Hp) (C : Addr) (cl : List (Str × Addr)) (fp : List Addr), PG (X.blk s H scope (compEnvC scope cl C X.env) fp) tg1 g1)
    (hk : ∀ (s : Shared) (H : Hp) (C : Addr) (cl : List (Str × Addr)) (fp : List Addr), PE (X.blk s H scope (compEnvC scope cl C X.env) fp) kx tk)
    (hx : ∀ (s : Shared) (H : Hp) (C : Addr) (cl : List (Str × Addr)) (fp : List Addr), PE (X.blk s H scope (compEnvC scope cl C X.env) fp) vx tv)
    (hs : ∀ x, foldedSetIterable iter X.env x = pure x) (hs1 : ∀ env x, foldedSetIterable iter1 env x = pure x) :
    PS X (.Assign [.Name y py] (dc2 kx vx tg iter tg1 iter1 scope pos) spos) (tAsg (tDc2 e0 wi g wi1 g1 tk tv (own.map (·.2)) vs1) (gName i)) := by
  refine ⟨fun pins s σ H D I h => ?_⟩
  rw [exec_Assign_Name_used _ _ _ _ hsw]
  refine wpAny_bind (wpAny_standAt (wpAny_bind ?_))
  show wpAny _ X.A (do let _ ← comprehension (dc2 kx vx tg iter tg1 iter1 scope pos) scope X.env (firstIterPos [⟨tg, iter, [], 0⟩, ⟨tg1, iter1, [], 0⟩] pos) newDict false (eval iter X.env) (some (assign (.Name y py) X.env))) _ _ s
  have h : tDc2 e0 wi g wi1 g1 tk tv (own.map (·.2)) vs1 σ H (fun x H1 => gName i x σ H1 D.nx) := h
  refine wpAny_bind (thn (dc2_core (Qf := fun _ s' => SP X pins D .next s') he0 room hc hN hi ok hv hg hi1 hg1 hk hx hs hs1 I h fun L C s' m H' I' q hn f => ?_) fun _ s' hq => wpAny_pure (wpAny_pure hq))
  show wpAny _ _ (assign (.Name y py) X.env (.ref L)) _ _ _
  refine wpAny_assign_Name (store_ok2 (v := V.ref L) I' hN hy (.inl hyl) rfl (fun s2 I2 ⟨a, sb, ha⟩ => ?_) (.inr hyl))
  obtain ⟨f0, f1, f2, f3, f4, f5⟩ := f
  have haC : C ≠ a := by
    rcases ha with z | z
    · rw [z]; exact f1
    · exact fun e => f4 y a z e.symm
  refine ⟨m, hn.sameBut sb haC, fun h3 sb3 => ?_⟩
  exact ⟨_, H', I2.turned (t' := s2.toks) (fun b o hb e => (sb3.2 b hb).trans e) f0 f1 f3 f4 f5, q⟩
theorem ps_setDc {i : Nat} {y : Str} {py spos : Pos} {kx vx tg iter : Expr} {ifs : List Expr} {scope : Scope} {own : List (Str × Nat)} {pos : Pos} {wi : TI} {g : TG} {tt : TT} {tk tv : TE} (hc : X.calm = true) (hN : X.N.Nodup) (hy : X.N[i]? = some y) (hyl : X.env.scope.names.lookup y = some .local)
    (hsw : swapsWith (.DictComp kx vx [⟨tg, iter, ifs, 0⟩] scope pos) (some (.Name y py)) spos.line X.env = pure true) (hi : PI X tg iter wi) (ok : BlkOk X.N X.env.scope scope own)
    (hg : ∀ (s : Shared) (H : Hp) (C : Addr) (cl : List (Str × Addr)) (fp : List Addr), PG (X.blk s H scope (compEnvC scope cl C X.env) fp) tg g) (ht : ∀ (s : Shared) (H : Hp) (C : Addr) (cl : List (Str × Addr)) (fp : List Addr), PTs (X.blk s H scope (compEnvC scope cl C X.env) fp) ifs tt)
    (hk : ∀ (s : Shared) (H : Hp) (C : Addr) (cl : List (Str × Addr)) (fp : List Addr), PE (X.blk s H scope (compEnvC scope cl C X.env) fp) kx tk)
    (hx : ∀ (s : Shared) (H : Hp) (C : Addr) (cl : List (Str × Addr)) (fp : List Addr), PE (X.blk s H scope (compEnvC scope cl C X.env) fp) vx tv)
    (hs : ∀ x, foldedSetIterable iter X.env x = pure x) :
    PS X (.Assign [.Name y py] (.DictComp kx vx [⟨tg, iter, ifs, 0⟩] scope pos) spos) (tAsg (tDc wi g tt tk tv (own.map (·.2))) (gName i)) := by
  refine ⟨fun pins s σ H D I h => ?_⟩
  rw [exec_Assign_Name_used _ _ _ _ hsw]
  refine wpAny_bind (wpAny_standAt (wpAny_bind ?_))
  show wpAny _ X.A (do let _ ← comprehension (.DictComp kx vx [⟨tg, iter, ifs, 0⟩] scope pos) scope X.env (firstIterPos [⟨tg, iter, ifs, 0⟩] pos) newDict false (eval iter X.env) (some (assign (.Name y py) X.env))) _ _ s
  have h : tDc wi g tt tk tv (own.map (·.2)) σ H (fun x H1 => gName i x σ H1 D.nx) := h
  refine wpAny_bind (thn (dc_core (Qf := fun _ s' => SP X pins D .next s') hc hN I hi ok hg ht hk hx hs h fun L C s' m H' I' q hn f => ?_) fun _ s' hq => wpAny_pure (wpAny_pure hq))
  show wpAny _ _ (assign (.Name y py) X.env (.ref L)) _ _ _
  refine wpAny_assign_Name (store_ok2 (v := V.ref L) I' hN hy (.inl hyl) rfl (fun s2 I2 ⟨a, sb, ha⟩ => ?_) (.inr hyl))
  obtain ⟨f0, f1, f2, f3, f4, f5⟩ := f
  have haC : C ≠ a := by
    rcases ha with z | z
    · rw [z]; exact f1
    · exact fun e => f4 y a z e.symm
  refine ⟨m, hn.sameBut sb haC, fun h3 sb3 => ?_⟩
  exact ⟨_, H', I2.turned (t' := s2.toks) (fun b o hb e => (sb3.2 b hb).trans e) f0 f1 f3 f4 f5, q⟩
end
section
variable {κ : Kap} {X : Cx} {f fk fv : Ex} {pos p p2 p3 apos spos py : Pos} {k : Nat}
theorem S_setDc2 (i : Nat) (bb : Bool) {y : Str} {kx vx tg iter tg1 iter1 : Expr} {scope : Scope} {own : List (Str × Nat)} {cc : Bool} {src src1 : Sx} {g g1 : Gx} {ss ss1 w1 : List Nat} (kn : Kn X k) (hi : PIx κ X tg iter cc src) (ok : BlkOk X.N X.env.scope scope own)
    (hg : ∀ (s : Shared) (H : Hp) (C : Addr) (cl : List (Str × Addr)) (fp : List Addr), PGx κ (X.blk s H scope (compEnvC scope cl C X.env) fp) tg g ss)
    (hi1 : ∀ (s : Shared) (H : Hp) (C : Addr) (cl : List (Str × Addr)) (fp : List Addr), PIx κ (X.blk s H scope (compEnvC scope cl C X.env) fp) tg1 iter1 true src1)
    (hg1 : ∀ (s : Shared) (H : Hp) (C : Addr) (cl : List (Str × Addr)) (fp : List Addr), PGx κ (X.blk s H scope (compEnvC scope cl C X.env) fp) tg1 g1 ss1)
    (hk : ∀ (s : Shared) (H : Hp) (C : Addr) (cl : List (Str × Addr)) (fp : List Addr), PX κ (X.blk s H scope (compEnvC scope cl C X.env) fp) kx fk) (he : ∀ (s : Shared) (H : Hp) (C : Addr) (cl : List (Str × Addr)) (fp : List Addr), PX κ (X.blk s H scope (compEnvC scope cl C X.env) fp) vx fv)
    (hss : ∀ i ∈ ss, i ∈ own.map (·.2) := by decide) (hss1 : ∀ i ∈ ss1, i ∈ w1 := by decide) (hw : ∀ i ∈ w1, i ∈ own.map (·.2) := by decide) (hs : ∀ x, foldedSetIterable iter X.env x = pure x := by intro _; rfl) (hs1 : ∀ env x, foldedSetIterable iter1 env x = pure x := by intro _ _; rfl)
    (hy : X.N[i]? = some y := by rfl) (hyl : X.env.scope.names.lookup y = some .local := by rfl) (hsw : swapsWith (dc2 kx vx tg iter tg1 iter1 scope pos) (some (.Name y py)) spos.line X.env = pure true := by rfl) :
    PSx κ X (.Assign [.Name y py] (dc2 kx vx tg iter tg1 iter1 scope pos) spos) (sSet i (nSh (xDc2 bb src (own.map (·.2)) g src1 w1 g1 fk fv))) :=
  ps_mono (ps_setDc2 (e0Of_or bb) kn.room.units0 kn.calm kn.nd hy hyl hsw hi ok hw hg hi1 hg1 hk he hs hs1) fun D σ H h => dc2_of hss hss1 (asg_px h)
theorem S_setDc (i : Nat) {y : Str} {kx vx tg iter : Expr} {ifs : List Expr} {scope : Scope} {own : List (Str × Nat)} {cc : Bool} {src : Sx} {g : Gx} {ss : List Nat} {pt : Tx} (kn : Kn X k) (hi : PIx κ X tg iter cc src) (ok : BlkOk X.N X.env.scope scope own)
    (hg : ∀ (s : Shared) (H : Hp) (C : Addr) (cl : List (Str × Addr)) (fp : List Addr), PGx κ (X.blk s H scope (compEnvC scope cl C X.env) fp) tg g ss) (ht : ∀ (s : Shared) (H : Hp) (C : Addr) (cl : List (Str × Addr)) (fp : List Addr), PTsx κ (X.blk s H scope (compEnvC scope cl C X.env) fp) ifs pt)
    (hk : ∀ (s : Shared) (H : Hp) (C : Addr) (cl : List (Str × Addr)) (fp : List Addr), PX κ (X.blk s H scope (compEnvC scope cl C X.env) fp) kx fk) (he : ∀ (s : Shared) (H : Hp) (C : Addr) (cl : List (Str × Addr)) (fp : List Addr), PX κ (X.blk s H scope (compEnvC scope cl C X.env) fp) vx fv) (hss : ∀ i ∈ ss, i ∈ own.map (·.2) := by decide) (hs : ∀ x, foldedSetIterable iter X.env x = pure x := by intro _; rfl)
    (hy : X.N[i]? = some y := by rfl) (hyl : X.env.scope.names.lookup y = some .local := by rfl) (hsw : swapsWith (.DictComp kx vx [⟨tg, iter, ifs, 0⟩] scope pos) (some (.Name y py)) spos.line X.env = pure true := by rfl) :
    PSx κ X (.Assign [.Name y py] (.DictComp kx vx [⟨tg, iter, ifs, 0⟩] scope pos) spos) (sSet i (nSh (xDc src (own.map (·.2)) g pt fk fv))) :=
  ps_mono (ps_setDc kn.calm kn.nd hy hyl hsw hi ok hg ht hk he hs) fun D σ H h => by
    obtain ⟨δ, Z, z, E, d, hd, q⟩ := asg_px h
    obtain ⟨ds, h1, h2⟩ := Option.bind_eq_some_iff.mp hd
    split at h2
    · next hm =>
      obtain ⟨ys, h3, h4⟩ := Option.map_eq_some_iff.mp h2
      subst h4
      exact ⟨δ, Z, z, E, ds, h1, fun J H1 e1 hlen wk D hD => dc_rd (z.ext e1) (E.ext e1) hlen (wk.weak fun _ _ => trivial) h3 hm hss hD fun H' e2 r => q _ H' (e1.trans e2) r⟩
    · cases h2
theorem S_setDcD (i : Nat) {y : Str} {kx vx tg iter e0 : Expr} {ifs : List Expr} {scope : Scope} {own : List (Str × Nat)} {P : L2.St → Hp → V → Prop} {h : List (D × D) → List D} {g : Gx} {ss : List Nat} {pt : Tx} {f0 : Ex} (kn : Kn X k) (pk : PEk κ X e0 f0 P) (hi : PI X tg iter (tIl X.K κ P f0 h)) (ok : BlkOk X.N X.env.scope scope own)
    (hg : ∀ (s : Shared) (H : Hp) (C : Addr) (cl : List (Str × Addr)) (fp : List Addr), PGx κ (X.blk s H scope (compEnvC scope cl C X.env) fp) tg g ss) (ht : ∀ (s : Shared) (H : Hp) (C : Addr) (cl : List (Str × Addr)) (fp : List Addr), PTsx κ (X.blk s H scope (compEnvC scope cl C X.env) fp) ifs pt)
    (hk : ∀ (s : Shared) (H : Hp) (C : Addr) (cl : List (Str × Addr)) (fp : List Addr), PX κ (X.blk s H scope (compEnvC scope cl C X.env) fp) kx fk) (he : ∀ (s : Shared) (H : Hp) (C : Addr) (cl : List (Str × Addr)) (fp : List Addr), PX κ (X.blk s H scope (compEnvC scope cl C X.env) fp) vx fv) (hss : ∀ i ∈ ss, i ∈ own.map (·.2) := by decide) (hs : ∀ x, foldedSetIterable iter X.env x = pure x := by intro _; rfl)
    (hy : X.N[i]? = some y := by rfl) (hyl : X.env.scope.names.lookup y = some .local := by rfl) (hsw : swapsWith (.DictComp kx vx [⟨tg, iter, ifs, 0⟩] scope pos) (some (.Name y py)) spos.line X.env = pure true := by rfl) :
    PSx κ X (.Assign [.Name y py] (.DictComp kx vx [⟨tg, iter, ifs, 0⟩] scope pos) spos) (sSet i (nSh (xDc (sDct f0 h) (own.map (·.2)) g pt fk fv))) := by
  have base := ps_setDc (py := py) (pos := pos) (spos := spos) (g := tPG X.K κ g ss) (tt := tPT X.K κ pt) (tk := tPX X.K κ fk) (tv := tPX X.K κ fv) kn.calm kn.nd hy hyl hsw hi ok hg ht hk he hs
  have rd : ∀ {σ : L2.St} {H : Hp} {Q : VK}, tPXl X.K κ P f0 (xDc (sDct f0 h) (own.map (·.2)) g pt fk fv) σ H Q → tDc (tIl X.K κ P f0 h) (tPG X.K κ g ss) (tPT X.K κ pt) (tPX X.K κ fk) (tPX X.K κ fv) (own.map (·.2)) σ H Q := fun {σ H Q} ⟨δ, Z, z, E, kvs, p, o, l, h1, h2, h3, h4, d, hd, q⟩ => by
    obtain ⟨ds, h5, h6⟩ := Option.bind_eq_some_iff.mp hd
    split at h6
    · next hm =>
      obtain ⟨ys, h7, h8⟩ := Option.map_eq_some_iff.mp h6
      subst h8
      obtain ⟨kvs', h9, h10⟩ := sDct_some h5
      rw [h1] at h9
      cases h9
      subst h10
      exact ⟨δ, Z, z, E, kvs, p, o, l, h1, h2, h3, h4, fun J hlen wk D hD => dc_rd z E hlen (wk.weak fun _ _ => trivial) h7 hm hss hD fun H' e2 r => q _ H' e2 r⟩
    · cases h6
  refine ps_mono (ps_or base (ps_lock base)) fun D σ H hh => ?_
  rcases locked_rd pk (fun δ d hd => by
    obtain ⟨ds, h5, h6⟩ := Option.bind_eq_some_iff.mp hd
    obtain ⟨kvs', h9, h10⟩ := sDct_some h5
    exact ⟨kvs', h9⟩) (asg_px hh) with q | ⟨d, u, h1, h2, h3⟩
  · exact .inl (rd q)
  · exact .inr ⟨d, u, h1, h2, fun od => rd (h3 od)⟩
theorem S_setDcKeys (i : Nat) {y : Str} {kx vx tg e0 : Expr} {ifs : List Expr} {scope : Scope} {own : List (Str × Nat)} {P : L2.St → Hp → V → Prop} {g : Gx} {ss : List Nat} {pt : Tx} {f0 : Ex} (kn : Kn X k) (pk : PEk κ X e0 f0 P) (ok : BlkOk X.N X.env.scope scope own)
    (hg : ∀ (s : Shared) (H : Hp) (C : Addr) (cl : List (Str × Addr)) (fp : List Addr), PGx κ (X.blk s H scope (compEnvC scope cl C X.env) fp) tg g ss) (ht : ∀ (s : Shared) (H : Hp) (C : Addr) (cl : List (Str × Addr)) (fp : List Addr), PTsx κ (X.blk s H scope (compEnvC scope cl C X.env) fp) ifs pt)
    (hk : ∀ (s : Shared) (H : Hp) (C : Addr) (cl : List (Str × Addr)) (fp : List Addr), PX κ (X.blk s H scope (compEnvC scope cl C X.env) fp) kx fk) (he : ∀ (s : Shared) (H : Hp) (C : Addr) (cl : List (Str × Addr)) (fp : List Addr), PX κ (X.blk s H scope (compEnvC scope cl C X.env) fp) vx fv) (hss : ∀ i ∈ ss, i ∈ own.map (·.2) := by decide) (hs : ∀ x, foldedSetIterable e0 X.env x = pure x := by intro _; rfl)
    (hy : X.N[i]? = some y := by rfl) (hyl : X.env.scope.names.lookup y = some .local := by rfl) (hsw : swapsWith (.DictComp kx vx [⟨tg, e0, ifs, 0⟩] scope pos) (some (.Name y py)) spos.line X.env = pure true := by rfl) :
    PSx κ X (.Assign [.Name y py] (.DictComp kx vx [⟨tg, e0, ifs, 0⟩] scope pos) spos) (sSet i (nSh (xDc (sDct f0 dKeys) (own.map (·.2)) g pt fk fv))) := S_setDcD i kn pk (I_keys pk) ok hg ht hk he hss hs hy hyl hsw
end
end BP
namespace BP
open PySem
open Classical in
noncomputable def FT (T : Tt) (n m : Nat) (G : List D → D → Prop) : List D → Option D := fun ds => if h : ∃ d, (ds.length = m ∧ T (k4 d) (startE n ds)) ∧ G ds d then some h.choose else none
theorem FT_some {T : Tt} {n m : Nat} {G : List D → D → Prop} {ds : List D} {d : D} (h : FT T n m G ds = some d) : (ds.length = m ∧ T (k4 d) (startE n ds)) ∧ G ds d := by
  unfold FT at h
  split at h
  · next q => cases h; exact q.choose_spec
  · cases h
theorem FT_ex {T : Tt} {n m : Nat} {G : List D → D → Prop} {ds : List D} (h : ∃ d, (ds.length = m ∧ T (k4 d) (startE n ds)) ∧ G ds d) : ∃ d, FT T n m G ds = some d ∧ G ds d := by
  unfold FT
  rw [dif_pos h]
  exact ⟨_, rfl, h.choose_spec.2⟩
open Classical in
noncomputable def IT (T : Tt) (n m : Nat) (G : List D → List (Str × D) → Prop) : List D → Option (List (Str × D)) := fun ds => if h : ∃ fs, (ds.length + 1 = m ∧ ∀ a, T (k4o a 0 fs) (startO n a 0 ds)) ∧ G ds fs then some h.choose else none
theorem IT_some {T : Tt} {n m : Nat} {G : List D → List (Str × D) → Prop} {ds : List D} {d : List (Str × D)} (h : IT T n m G ds = some d) : (ds.length + 1 = m ∧ ∀ a, T (k4o a 0 d) (startO n a 0 ds)) ∧ G ds d := by
  unfold IT at h
  split at h
  · next q => cases h; exact q.choose_spec
  · cases h
theorem IT_ex {T : Tt} {n m : Nat} {G : List D → List (Str × D) → Prop} {ds : List D} (h : ∃ fs, (ds.length + 1 = m ∧ ∀ a, T (k4o a 0 fs) (startO n a 0 ds)) ∧ G ds fs) : ∃ d, IT T n m G ds = some d ∧ G ds d := by
  unfold IT
  rw [dif_pos h]
  exact ⟨_, rfl, h.choose_spec.2⟩
def eL (l : List Str) : D := .lst (l.map .str)
def eT (l : List Str) : D := .tup (l.map .str)
def eK (l : List (Str × Str)) : D := .dct (l.map fun p => (.str p.1, .str p.2))
/-- the places by the letters -/
def pairs (ps ls : List Str) : List (Str × Str) := ps.flatMap fun p => ls.map fun l => (p, l)
def eW (ps ls : List Str) (v : Str → Str → D) : D := .dtt ((pairs ps ls).map fun q => (.tup [.str q.1, .str q.2], v q.1 q.2))
structure Wb where
  letters : List Str
  spots : List (Str × Str)
  begins : List Str
  way : Str → Str → List Str
def Wb.places (w : Wb) : List Str := w.spots.map (·.1)
def Wb.inT (w : Wb) (some : List Str) : List Str := w.places.filter (· ∈ some)
def nameOk (s : Str) : Prop := 1 ≤ s.length ∧ s.length ≤ 8 ∧ ∀ c ∈ s.cps.toList, c ∈ (Str.ofString "abcdefghijklmnopqrstuvwxyz").cps.toList
structure Wb.Ok (w : Wb) : Prop where
  l1 : 1 ≤ w.letters.length
  l3 : w.letters.length ≤ 3
  ln : ∀ s ∈ w.letters, nameOk s
  ld : w.letters.Nodup
  p1 : 1 ≤ w.places.length
  p6 : w.places.length ≤ 6
  pn : ∀ p ∈ w.spots, nameOk p.1 ∧ nameOk p.2
  pd : w.places.Nodup
  bd : w.begins.Nodup
  bs : ∀ x ∈ w.begins, x ∈ w.places
  b1 : 1 ≤ w.begins.length
  wd : ∀ p ∈ w.places, ∀ l ∈ w.letters, (w.way p l).Nodup ∧ (∀ x ∈ w.way p l, x ∈ w.places) ∧ 1 ≤ (w.way p l).length
/-- the four parts that the law hands about -/
def Wb.parts (w : Wb) : List D := [eL w.letters, eK w.spots, eL w.begins, eW w.places w.letters fun p l => eL (w.way p l)]
def Wb.fields (w : Wb) : List (Str × D) := [("moves", eL w.letters), ("known", eK w.spots), ("first", eT (w.inT w.begins)), ("leads", eW w.places w.letters fun p l => eT (w.inT (w.way p l)))]
def Wb.obj (w : Wb) : D := .obj 0 w.fields
def Wb.can (w : Wb) (p : Str) (some : List Str) : Bool := w.letters.any fun l => (w.inT (w.way p l)).all (· ∈ some)
def Wb.kept (w : Wb) (some : List Str) : List Str := some.filter fun p => w.can p some
def Wb.grow (w : Wb) (some : List Str) : List Str := w.places.filter fun p => p ∈ some || w.can p some
def times (f : List Str → List Str) : Nat → List Str → List Str
  | 0, x => x
  | n + 1, x => times f n (f x)
def Wb.brought (w : Wb) (aims : List Str) : List Str := times w.grow 7 (w.inT aims)
def Wb.again (w : Wb) (aims : List Str) : List Str := aims.filter fun p => w.can p (w.brought aims)
def Wb.due (w : Wb) (goal : Str) (some : List Str) : List Str :=
  if goal = "come" then w.brought some else if goal = "keep" then times w.kept 7 (w.places.filter (· ∉ some)) else w.brought (times w.again 7 (w.inT some))
def eI (l : List Int) : D := .lst (l.map .int)
def G_is_name (ds : List D) (d : D) : Prop := ∀ s, ds = [.str s] → nameOk s → d = .bl true
def G_are_some (ds : List D) (d : D) : Prop := ∀ l names (n : Int), ds = [eL l, eL names, .int n] → l.Nodup → (∀ x ∈ l, x ∈ names) → n ≤ l.length → l.length ≤ 1000 → d = .bl true
def G_are_letters (ds : List D) (d : D) : Prop := ∀ w : Wb, ds = [eL w.letters] → w.Ok → d = .bl true
def G_are_places (ds : List D) (d : D) : Prop := ∀ w : Wb, ds = [eK w.spots] → w.Ok → d = .bl true
def G_are_ways (ds : List D) (d : D) : Prop := ∀ w : Wb, ds = [eW w.places w.letters fun p l => eL (w.way p l), eL w.letters, eL w.places] → w.Ok → d = .bl true
def G_in_turn (ds : List D) (d : D) : Prop := ∀ (w : Wb) fs some, ds = [.obj 0 fs, eL some] → fs.lookup ("known" : Str) = Option.some (eK w.spots) → d = eT (w.inT some)
def G_init (ds : List D) (fs : List (Str × D)) : Prop := ∀ w : Wb, ds = w.parts → w.Ok → fs = w.fields
def G_check_goal (ds : List D) (d : D) : Prop := d = .non
def G_can_stay (ds : List D) (d : D) : Prop := ∀ (w : Wb) p some, ds = [w.obj, .str p, eL some] → w.Ok → p ∈ w.places → d = .bl (w.can p some)
def G_kept_in (ds : List D) (d : D) : Prop := ∀ (w : Wb) some, ds = [w.obj, eL some] → w.Ok → (∀ x ∈ some, x ∈ w.places) → d = eL (w.kept some)
def G_brought_to (ds : List D) (d : D) : Prop := ∀ (w : Wb) aims, ds = [w.obj, eL (w.inT aims)] → w.Ok → d = eL (w.brought aims)
def G_sighted (ds : List D) (d : D) : Prop := ∀ (w : Wb) goal some, ds = [w.obj, .str goal, eL some] → w.Ok → some.Nodup → (∀ x ∈ some, x ∈ w.places) → goal ∈ (["keep", "come", "again"] : List Str) → d = eT (w.due goal some)
def isInt1 (d : D) : Prop := ∃ i, d = .int i
def G__law_draw (ds : List D) (d : D) : Prop := ∃ i, d = .int i ∧ 0 ≤ i
def G__law_cell_at (ds : List D) (d : D) : Prop := ∃ i, d = .int i ∧ 0 ≤ i
def G__law_digits (ds : List D) (d : D) : Prop := ∀ sc at_ (many : Nat) base, ds = [eI sc, .int at_, .int many, .int base] → ∃ l : List Int, d = eI l ∧ l.length = many
def G__law_web (ds : List D) (d : D) : Prop := ∃ w : Wb, w.Ok ∧ d = .tup w.parts
def G__law_goal (ds : List D) (d : D) : Prop := ∀ names a b, ds = [.lst [.int a, .int b], eL names] → ∃ g l, d = .tup [.str g, eL l] ∧ l.Sublist names
def G__law_turned (ds : List D) (d : D) : Prop := ∀ l n, ds = [eL l, .int n] → ∃ l' : List Str, d = eL l' ∧ l'.Perm l
def G__law_can (ds : List D) (d : D) : Prop := ∀ (w : Wb) p some, ds = [.tup w.parts, .str p, eL some] → w.Ok → p ∈ w.places → d = .bl (w.can p some)
def G__law_brought (ds : List D) (d : D) : Prop := ∀ (w : Wb) aims, ds = [.tup w.parts, eL aims] → w.Ok → d = eL (w.brought aims)
def G__law_due (ds : List D) (d : D) : Prop := ∀ (w : Wb) goal some, ds = [.tup w.parts, .str goal, eL some] → w.Ok → d = eL (w.due goal some)
end BP
namespace BP
open PySem
def T_is_name : Tt := sThen (sIf (BP.tOr (tNot (tB (x1 (oIsi "str") (bVar 0)))) (tNot (tB (xCh oLe oLe (xC (.int 1)) (xL oLen (xsC (bVar 0) (xs0))) (xC (.int 8)))))) (sThen (sRet (xC (.bl false))) (sNext)) (sNext)) (sThen (sRet (xL oAll (xsC (xLc (sStr (xVar 0)) [1] (gN 1) (tTrue) (x2 oInS (bVar 1) (xC (.str "abcdefghijklmnopqrstuvwxyz")))) (xs0)))) (sNext))
noncomputable def F_is_name : List D → Option D := FT T_is_name 2 1 G_is_name
def T_are_some : Tt := sThen (sIf (BP.tOr (tNot (tB (x1 (oIsi2 "list" "tuple") (bVar 0)))) (tB (x2 oLt (xL oLen (xsC (bVar 0) (xs0))) (bVar 2)))) (sThen (sRet (xC (.bl false))) (sNext)) (sNext)) (sThen (sIf (tNot (tB (xL oAll (xsC (xLc (sLst (xVar 0)) [3] (gN 3) (tTrue) (xAnd (tB (x1 (oIsi "str") (bVar 3))) (x2 oIn (bVar 3) (bVar 1)))) (xs0))))) (sThen (sRet (xC (.bl false))) (sNext)) (sNext)) (sThen (sRet (x2 oEq (xLenSc (sLst (xVar 0)) [3] (gN 3) (xVar 3)) (xL oLen (xsC (bVar 0) (xs0))))) (sNext)))
noncomputable def F_are_some : List D → Option D := FT T_are_some 4 3 G_are_some
def T_are_letters : Tt := sThen (sIf (BP.tOr (tNot (tB (x1 (oIsi2 "list" "tuple") (bVar 0)))) (tNot (tB (xCh oLe oLe (xC (.int 1)) (xL oLen (xsC (bVar 0) (xs0))) (xC (.int 3)))))) (sThen (sRet (xC (.bl false))) (sNext)) (sNext)) (sThen (sRet (xAnd (tB (xL oAll (xsC (xLc (sLst (xVar 0)) [1] (gN 1) (tTrue) (xL F_is_name (xsC (xVar 1) (xs0)))) (xs0)))) (x2 oEq (xLenSc (sLst (xVar 0)) [1] (gN 1) (xVar 1)) (xL oLen (xsC (bVar 0) (xs0)))))) (sNext))
noncomputable def F_are_letters : List D → Option D := FT T_are_letters 2 1 G_are_letters
def T_are_places : Tt := sThen (sIf (BP.tOr (tNot (tB (x1 (oIsi "dict") (bVar 0)))) (tNot (tB (xCh oLe oLe (xC (.int 1)) (xL oLen (xsC (bVar 0) (xs0))) (xC (.int 6)))))) (sThen (sRet (xC (.bl false))) (sNext)) (sNext)) (sThen (sRet (xL oAll (xsC (xLc (sDct (xVar 0) dItems) [1, 2] (gT (gsC (gN 1) (gsC (gN 2) (gs0)))) (tTrue) (xAnd (tB (xL F_is_name (xsC (xVar 1) (xs0)))) (xL F_is_name (xsC (xVar 2) (xs0))))) (xs0)))) (sNext))
noncomputable def F_are_places : List D → Option D := FT T_are_places 3 1 G_are_places
def T_are_ways : Tt := sThen (sIf (BP.tOr (tNot (tB (x1 (oIsi "dict") (bVar 0)))) (tB (x2 oNe (xL oLen (xsC (bVar 0) (xs0))) (x2 oMul (xL oLen (xsC (bVar 1) (xs0))) (xL oLen (xsC (bVar 2) (xs0))))))) (sThen (sRet (xC (.bl false))) (sNext)) (sNext)) (sThen (sSet 3 (nSh (xLc2 (sLst (xVar 2)) [4, 5] (gN 4) (sLst (xVar 1)) [5] (gN 5) (xL oTup (xsC (xVar 4) (xsC (xVar 5) (xs0))))))) (sThen (sRet (xL oAll (xsC (xLc (sLst (xVar 3)) [6] (gN 6) (tTrue) (xAnd (tB (x2 oIn (bVar 6) (bVar 0))) (xL F_are_some (xsC (x2 oSub2 (bVar 0) (xVar 6)) (xsC (xVar 2) (xsC (xC (.int 1)) (xs0))))))) (xs0)))) (sNext)))
noncomputable def F_are_ways : List D → Option D := FT T_are_ways 7 3 G_are_ways
def T_in_turn : Tt := sThen (sRet (xL oTup1 (xsC (xLc (sDct (x1 (oFldC 0 "known") (xVar 0)) dKeys) [2] (gN 2) (tB (x2 oIn (bVar 2) (bVar 1))) (xVar 2)) (xs0)))) (sNext)
noncomputable def F_in_turn : List D → Option D := FT T_in_turn 3 2 G_in_turn
def T_init : Tt := sThen (sIf (tNot (tB (xL F_are_letters (xsC (xVar 1) (xs0))))) (sThen (sNever) (sNext)) (sNext)) (sThen (sIf (tNot (tB (xL F_are_places (xsC (xVar 2) (xs0))))) (sThen (sNever) (sNext)) (sNext)) (sThen (sIf (tNot (tB (xL F_are_some (xsC (xVar 3) (xsC (xL oList (xsC (bVar 2) (xs0))) (xsC (xC (.int 1)) (xs0))))))) (sThen (sNever) (sNext)) (sNext)) (sThen (sIf (tNot (tB (xL F_are_ways (xsC (xVar 4) (xsC (xVar 1) (xsC (xL oList (xsC (bVar 2) (xs0))) (xs0))))))) (sThen (sNever) (sNext)) (sNext)) (sThen (sFldS 0 0 "moves" (xL oList (xsC (bVar 1) (xs0)))) (sThen (sFldS 0 0 "known" (xL oDictD (xsC (bVar 2) (xs0)))) (sThen (sFldS 0 0 "first" (xMethO 0 0 "in_turn" F_in_turn (xsC (xVar 3) (xs0)))) (sThen (sFldS 0 0 "leads" (xDc2 false (sDct (xVar 2) dKeys) [5, 6] (gN 5) (sLst (xVar 1)) [6] (gN 6) (xL oTup (xsC (xVar 5) (xsC (xVar 6) (xs0)))) (xMethO 0 0 "in_turn" F_in_turn (xsC (x2 oSub2 (bVar 4) (xL oTup (xsC (xVar 5) (xsC (xVar 6) (xs0))))) (xs0))))) (sNext))))))))
noncomputable def I_Web : List D → Option (List (Str × D)) := IT T_init 7 5 G_init
def T_check_goal : Tt := sThen (sIf (BP.tOr (tNot (tB (x1 (oIsi "str") (bVar 1)))) (BP.tOr (tB (x1 (oNotInG ["keep", "come", "again"]) (bVar 1))) (tNot (tB (xL F_are_some (xsC (xVar 2) (xsC (xL oList (xsC (x1 (oFldC 0 "known") (bVar 0)) (xs0))) (xsC (xC (.int 0)) (xs0))))))))) (sThen (sNever) (sNext)) (sNext)) (sNext)
noncomputable def F_check_goal : List D → Option D := FT T_check_goal 3 3 G_check_goal
def T_can_stay : Tt := sThen (sRet (xL oAny (xsC (xLc (sLst (x1 (oFldC 0 "moves") (bVar 0))) [3] (gN 3) (tTrue) (xL oAll (xsC (xLc (sTups (x2 oSub2 (x1 (oFldC 0 "leads") (bVar 0)) (xL oTup (xsC (xVar 1) (xsC (xVar 3) (xs0)))))) [4] (gN 4) (tTrue) (x2 oIn (bVar 4) (bVar 2))) (xs0)))) (xs0)))) (sNext)
noncomputable def F_can_stay : List D → Option D := FT T_can_stay 5 3 G_can_stay
def T_kept_in : Tt := sThen (sRet (xLc (sLst (xVar 1)) [2] (gN 2) (tB (xL F_can_stay (xsC (xVar 0) (xsC (xVar 2) (xsC (xVar 1) (xs0)))))) (xVar 2))) (sNext)
noncomputable def F_kept_in : List D → Option D := FT T_kept_in 3 2 G_kept_in
def T_brought_to : Tt := sThen (sPar2 2 3 (nsC (nSh (xL oList (xsC (bVar 1) (xs0)))) (nsC (nSh (xC .non)) ns0))) (sThen (sWhile (tB (x2 oNe (bVar 2) (bVar 3))) (sThen (sSet 3 (nSh (xL oList (xsC (bVar 2) (xs0))))) (sThen (sSet 2 (nSh (xLc (sDct (x1 (oFldC 0 "known") (xVar 0)) dKeys) [4] (gN 4) (BP.tOr (tB (x2 oIn (bVar 4) (bVar 3))) (tB (xL F_can_stay (xsC (xVar 0) (xsC (xVar 4) (xsC (xVar 3) (xs0))))))) (xVar 4)))) (sNext)))) (sThen (sRet (xVar 2)) (sNext)))
noncomputable def F_brought_to : List D → Option D := FT T_brought_to 5 2 G_brought_to
def T_sighted : Tt := sThen (sExpr (xL F_check_goal (xsC (xVar 0) (xsC (xVar 1) (xsC (xVar 2) (xs0)))))) (sThen (sIf (tB (x2 oEq (bVar 1) (xC (.str "keep")))) (sThen (sSet 3 (nSh (xLc (sDct (x1 (oFldC 0 "known") (xVar 0)) dKeys) [7] (gN 7) (tB (x2 oNotIn (bVar 7) (bVar 2))) (xVar 7)))) (sThen (sWhile (tB (x2 oNe (bVar 3) (xL F_kept_in (xsC (xVar 0) (xsC (xVar 3) (xs0)))))) (sThen (sSet 3 (nSh (xL F_kept_in (xsC (xVar 0) (xsC (xVar 3) (xs0)))))) (sNext))) (sThen (sRet (xL oTup1 (xsC (bVar 3) (xs0)))) (sNext)))) (sNext)) (sThen (sSet 4 (nSh (xLc (sDct (x1 (oFldC 0 "known") (xVar 0)) dKeys) [7] (gN 7) (tB (x2 oIn (bVar 7) (bVar 2))) (xVar 7)))) (sThen (sWhile (tB (xC (.bl true))) (sThen (sSet 5 (nSh (xL F_brought_to (xsC (xVar 0) (xsC (xVar 4) (xs0)))))) (sThen (sSet 6 (nSh (xLc (sLst (xVar 4)) [7] (gN 7) (BP.tOr (tB (x2 oEq (bVar 1) (xC (.str "come")))) (tB (xL F_can_stay (xsC (xVar 0) (xsC (xVar 7) (xsC (xVar 5) (xs0))))))) (xVar 7)))) (sThen (sIf (tB (x2 oEq (bVar 6) (bVar 4))) (sThen (sRet (oMeth 0 "in_turn" F_in_turn (xVar 0) (xsC (xVar 5) (xs0)))) (sNext)) (sNext)) (sThen (sSet 4 (nSh (xVar 6))) (sNext)))))) (sNext))))
noncomputable def F_sighted : List D → Option D := FT T_sighted 8 3 G_sighted
def T__law_draw : Tt := sThen (sSet 3 (nSh (xL oTup (xsC (xC (.int 1000003)) (xsC (xC (.int 1000033)) (xsC (xC (.int 1000037)) (xsC (xC (.int 1000039)) (xsC (xC (.int 1000081)) (xsC (xC (.int 1000099)) (xsC (xC (.int 1000117)) (xsC (xC (.int 1000121)) (xsC (xC (.int 1000133)) (xsC (xC (.int 1000151)) (xsC (xC (.int 1000159)) (xsC (xC (.int 1000171)) (xsC (xC (.int 1000183)) (xsC (xC (.int 1000187)) (xsC (xC (.int 1000193)) (xsC (xC (.int 1000199)) (xs0)))))))))))))))))))) (sThen (sRet (x2 oMod (x2 oMod (x2 oPlus (x2 oMul (bVar 0) (xC (.int 48271))) (x2 oMul (bVar 1) (xC (.int 69621)))) (x2 oSub2 (bVar 3) (x2 oMod (bVar 1) (xC (.int 16))))) (bVar 2))) (sNext))
noncomputable def F__law_draw : List D → Option D := FT T__law_draw 4 3 G__law_draw
def T__law_cell_at : Tt := sThen (sIf (tB (x2 oLt (bVar 1) (xL oLen (xsC (bVar 0) (xs0))))) (sThen (sRet (xL oAbs1 (xsC (x2 oSub2 (bVar 0) (xVar 1)) (xs0)))) (sNext)) (sNext)) (sThen (sRet (xL F__law_draw (xsC (x2 oPlus (xL oAbs1 (xsC (xL oSum (xsC (bVar 0) (xs0))) (xs0))) (x2 oMul (xC (.int 7919)) (bVar 1))) (xsC (xVar 1) (xsC (xC (.int 999983)) (xs0)))))) (sNext))
noncomputable def F__law_cell_at : List D → Option D := FT T__law_cell_at 2 2 G__law_cell_at
def T__law_digits : Tt := sThen (sPar2 4 5 (nsC (nSh (xL F__law_cell_at (xsC (xVar 0) (xsC (xVar 1) (xs0))))) (nsC (nL0) ns0))) (sThen (sSet 6 (nSh (x2 oSub (bVar 4) (x2 oPow (xC (.int 10)) (xC (.int 18)))))) (sThen (sFor (sRange1 (xsC (xVar 2) (xs0))) (gN 7) (sThen (sIf (tB (x2 oGe (bVar 4) (x2 oPow (xC (.int 10)) (xC (.int 18))))) (sThen (sApp 5 (x2 oMod (bVar 6) (bVar 3))) (sThen (sSet 6 (nSh (x2 oDiv (bVar 6) (bVar 3)))) (sNext))) (sThen (sSet 8 (nSh (xL F__law_draw (xsC (x2 oMul (x2 oPlus (xVar 4) (x2 oMul (xC (.int 977)) (bVar 7))) (x2 oPlus (x2 oPlus (xVar 4) (x2 oMul (xC (.int 31)) (bVar 7))) (xC (.int 5)))) (xsC (x2 oPlus (x2 oMod (bVar 7) (xC (.int 9))) (xC (.int 1))) (xsC (xC (.int 999983)) (xs0))))))) (sThen (sSet 9 (nSh (xL F__law_draw (xsC (x2 oPlus (x2 oMul (x2 oPlus (xVar 4) (x2 oMul (xC (.int 31)) (bVar 7))) (x2 oPlus (xVar 4) (xC (.int 7)))) (x2 oMul (xC (.int 977)) (bVar 7))) (xsC (x2 oPlus (x2 oMod (bVar 7) (xC (.int 7))) (xC (.int 2))) (xsC (xC (.int 1000003)) (xs0))))))) (sThen (sApp 5 (x2 oMod (x2 oPlus (x2 oMul (bVar 8) (xC (.int 1000003))) (xVar 9)) (bVar 3))) (sNext))))) (sNext))) (sThen (sDis 5) (sThen (sRet (xVar 5)) (sNext)))))
noncomputable def F__law_digits : List D → Option D := FT T__law_digits 10 4 G__law_digits
def T__law_web : Tt := sThen (sSet 3 (nSh (xL F__law_digits (xsC (xVar 0) (xsC (xVar 1) (xsC (xC (.int 60)) (xsC (xC (.int 1000003)) (xs0)))))))) (sThen (sSet 4 (nSh (x2 oSub2 (xL oTup (xsC (xL oLst (xsC (xC (.str "x")) (xsC (xC (.str "y")) (xs0)))) (xsC (xL oLst (xsC (xC (.str "x")) (xs0))) (xsC (xL oLst (xsC (xC (.str "y")) (xsC (xC (.str "x")) (xsC (xC (.str "z")) (xs0))))) (xsC (xL oLst (xsC (xC (.str "to")) (xsC (xC (.str "sign")) (xs0)))) (xs0)))))) (x2 oMod (x2 oSub2 (bVar 3) (xC (.int 0))) (xC (.int 4)))))) (sThen (sSet 5 (nSh (xCut (x2 oSplit (x2 oSub2 (xL oTup (xsC (xC (.str "a b c d e f")) (xsC (xC (.str "f e place c to a")) (xs0)))) (x2 oMod (x2 oSub2 (bVar 3) (xC (.int 1))) (xC (.int 2)))) (xC (.str " "))) (po0) (po1 (x2 oPlus (xC (.int 1)) (x2 oMod (x2 oSub2 (bVar 3) (xC (.int 2))) (bVar 2))))))) (sThen (sSet 6 (nSh (xCut (xL oLst (xsC (xC (.str "p")) (xsC (xC (.str "q")) (xsC (xC (.str "sign")) (xsC (xC (.str "r")) (xsC (xC (.str "s")) (xsC (xC (.str "t")) (xs0)))))))) (po0) (po1 (x2 oPlus (xC (.int 1)) (x2 oMod (x2 oSub2 (bVar 3) (xC (.int 3))) (xL oLen (xsC (bVar 5) (xs0))))))))) (sThen (sSet 7 (nSh (xL oDictP (xsC (xLc (sEnumA (xsC (xVar 5) (xs0))) [15, 11] (gT (gsC (gN 15) (gsC (gN 11) (gs0)))) (tTrue) (xL oTup (xsC (xVar 11) (xsC (x2 oSub2 (bVar 6) (x2 oMod (x2 oSub2 (bVar 3) (x2 oPlus (xC (.int 4)) (xVar 15))) (xL oLen (xsC (bVar 6) (xs0))))) (xs0))))) (xs0))))) (sThen (sSet 8 (nSh (xLc (sEnumA (xsC (xVar 5) (xs0))) [15, 11] (gT (gsC (gN 15) (gsC (gN 11) (gs0)))) (tB (x2 oEq (x2 oBand (x2 oShr (x2 oSub2 (bVar 3) (xC (.int 10))) (bVar 15)) (xC (.int 3))) (xC (.int 0)))) (xVar 11)))) (sThen (sPar2 9 10 (nsC (nT0) (nsC (nSh (xIf (tB (x2 oEq (x2 oMod (x2 oSub2 (bVar 3) (xC (.int 11))) (xC (.int 3))) (xC (.int 0)))) (xC (.int 1)) (xC (.int 3)))) ns0))) (sThen (sFor (sLst (xVar 5)) (gN 11) (sThen (sFor (sLst (xVar 4)) (gN 12) (sThen (sSet 13 (nSh (x2 oSub2 (bVar 3) (x2 oPlus (xC (.int 12)) (xL oLen (xsC (bVar 9) (xs0))))))) (sThen (sSet 14 (nSh (xLc (sEnumA (xsC (xVar 5) (xs0))) [16, 17] (gT (gsC (gN 16) (gsC (gN 17) (gs0)))) (tB (x2 oEq (x2 oBand (x2 oShr (bVar 13) (bVar 16)) (bVar 10)) (xC (.int 0)))) (xVar 17)))) (sThen (sDputT 9 (xL oTup (xsC (xVar 11) (xsC (xVar 12) (xs0)))) (xIf (tB (x2 oNe (bVar 14) (xL oLst (xs0)))) (xVar 14) (xL oLst (xsC (x2 oSub2 (bVar 5) (x2 oMod (bVar 13) (xL oLen (xsC (bVar 5) (xs0))))) (xs0))))) (sNext))))) (sNext))) (sThen (sDis 9) (sThen (sRet (xL oTup (xsC (xVar 4) (xsC (xVar 7) (xsC (xIf (tB (x2 oNe (bVar 8) (xL oLst (xs0)))) (xVar 8) (xL oLst (xsC (x2 oSub2 (bVar 5) (x2 oMod (x2 oSub2 (bVar 3) (xC (.int 10))) (xL oLen (xsC (bVar 5) (xs0))))) (xs0)))) (xsC (xVar 9) (xs0))))))) (sNext))))))))))
noncomputable def F__law_web : List D → Option D := FT T__law_web 18 3 G__law_web
def T__law_goal : Tt := sThen (sSet 2 (nSh (xLc (sEnumA (xsC (xVar 1) (xs0))) [3, 4] (gT (gsC (gN 3) (gsC (gN 4) (gs0)))) (tB (x2 oEq (x2 oBand (x2 oShr (x2 oSub2 (bVar 0) (xC (.int 1))) (bVar 3)) (xC (.int 3))) (xC (.int 0)))) (xVar 4)))) (sThen (sRet (xL oTup (xsC (x2 oSub2 (xL oTup (xsC (xC (.str "keep")) (xsC (xC (.str "come")) (xsC (xC (.str "again")) (xs0))))) (x2 oMod (x2 oSub2 (bVar 0) (xC (.int 0))) (xC (.int 3)))) (xsC (xVar 2) (xs0))))) (sNext))
noncomputable def F__law_goal : List D → Option D := FT T__law_goal 5 2 G__law_goal
def T__law_turned : Tt := sThen (sRet (x2 oPlus (x1 oRev (xCut (bVar 0) (po1 (x2 oMod (bVar 1) (x2 oPlus (xL oLen (xsC (bVar 0) (xs0))) (xC (.int 1))))) (po0))) (xCut (bVar 0) (po0) (po1 (x2 oMod (bVar 1) (x2 oPlus (xL oLen (xsC (bVar 0) (xs0))) (xC (.int 1)))))))) (sNext)
noncomputable def F__law_turned : List D → Option D := FT T__law_turned 2 2 G__law_turned
def T__law_can : Tt := sThen (sAsg (xVar 0) (gT (gsC (gN 3) (gsC (gN 4) (gsC (gN 5) (gsC (gN 6) (gs0))))))) (sThen (sRet (xL oAny (xsC (xLc (sLst (xVar 3)) [7] (gN 7) (tTrue) (xL oAll (xsC (xLc (sLst (x2 oSub2 (bVar 6) (xL oTup (xsC (xVar 1) (xsC (xVar 7) (xs0)))))) [8] (gN 8) (tTrue) (x2 oIn (bVar 8) (bVar 2))) (xs0)))) (xs0)))) (sNext))
noncomputable def F__law_can : List D → Option D := FT T__law_can 9 3 G__law_can
def T__law_brought : Tt := sThen (sSet 2 (nSh (xLc (sDct (x2 oIxT (xVar 0) (xC (.int 1))) dKeys) [4] (gN 4) (tB (x2 oIn (bVar 4) (bVar 1))) (xVar 4)))) (sThen (sFor (sRange1 (xsC (xC (.int 7)) (xs0))) (gN 3) (sThen (sSet 2 (nSh (xLc (sDct (x2 oIxT (xVar 0) (xC (.int 1))) dKeys) [4] (gN 4) (BP.tOr (tB (x2 oIn (bVar 4) (bVar 2))) (tB (xL F__law_can (xsC (xVar 0) (xsC (xVar 4) (xsC (xVar 2) (xs0))))))) (xVar 4)))) (sNext))) (sThen (sRet (xVar 2)) (sNext)))
noncomputable def F__law_brought : List D → Option D := FT T__law_brought 5 2 G__law_brought
def T__law_due : Tt := sThen (sIf (tB (x2 oEq (bVar 1) (xC (.str "come")))) (sThen (sRet (xL F__law_brought (xsC (xVar 0) (xsC (xVar 2) (xs0))))) (sNext)) (sNext)) (sThen (sIf (tB (x2 oEq (bVar 1) (xC (.str "keep")))) (sThen (sSet 3 (nSh (xLc (sDct (x2 oIxT (xVar 0) (xC (.int 1))) dKeys) [6] (gN 6) (tB (x2 oNotIn (bVar 6) (bVar 2))) (xVar 6)))) (sThen (sFor (sRange1 (xsC (xC (.int 7)) (xs0))) (gN 4) (sThen (sSet 3 (nSh (xLc (sLst (xVar 3)) [6] (gN 6) (tB (xL F__law_can (xsC (xVar 0) (xsC (xVar 6) (xsC (xVar 3) (xs0)))))) (xVar 6)))) (sNext))) (sThen (sRet (xVar 3)) (sNext)))) (sNext)) (sThen (sSet 5 (nSh (xLc (sDct (x2 oIxT (xVar 0) (xC (.int 1))) dKeys) [6] (gN 6) (tB (x2 oIn (bVar 6) (bVar 2))) (xVar 6)))) (sThen (sFor (sRange1 (xsC (xC (.int 7)) (xs0))) (gN 4) (sThen (sSet 3 (nSh (xL F__law_brought (xsC (xVar 0) (xsC (xVar 5) (xs0)))))) (sThen (sSet 5 (nSh (xLc (sLst (xVar 5)) [6] (gN 6) (tB (xL F__law_can (xsC (xVar 0) (xsC (xVar 6) (xsC (xVar 3) (xs0)))))) (xVar 6)))) (sNext)))) (sThen (sRet (xL F__law_brought (xsC (xVar 0) (xsC (xVar 5) (xs0))))) (sNext)))))
noncomputable def F__law_due : List D → Option D := FT T__law_due 7 3 G__law_due
def T_law : Tt := sThen (sFor (sRange1 (xsC (xL oMax2 (xsC (xC (.int 1)) (xsC (xL oMin2 (xsC (xC (.int 16)) (xsC (xL oLen (xsC (bVar 0) (xs0))) (xs0)))) (xs0)))) (xs0))) (gN 1) (sThen (sPar2 2 3 (nsC (nSh (xL F__law_web (xsC (xVar 0) (xsC (xVar 1) (xsC (xC (.int 6)) (xs0)))))) (nsC (nSh (xL F__law_digits (xsC (xVar 0) (xsC (x2 oPlus (xVar 1) (xC (.int 1))) (xsC (xC (.int 6)) (xsC (xC (.int 1000003)) (xs0))))))) ns0))) (sThen (sSet 4 (nSh (oMake 0 I_Web (xsC (x2 oSub2 (bVar 2) (xC (.int 0))) (xsC (x2 oSub2 (bVar 2) (xC (.int 1))) (xsC (x2 oSub2 (bVar 2) (xC (.int 2))) (xsC (x2 oSub2 (bVar 2) (xC (.int 3))) (xs0)))))))) (sThen (sFor (sZip (xsC (xL oTup (xsC (xC (.str "keep")) (xsC (xC (.str "come")) (xsC (xC (.str "again")) (xs0))))) (xsC (xVar 3) (xs0)))) (gT (gsC (gN 5) (gsC (gN 6) (gs0)))) (sThen (sSet 7 (nSh (x2 oSub2 (xL F__law_goal (xsC (xL oLst (xsC (xC (.int 0)) (xsC (xVar 6) (xs0)))) (xsC (xL oList (xsC (x2 oSub2 (bVar 2) (xC (.int 1))) (xs0))) (xs0)))) (xC (.int 1))))) (sThen (sIf (tB (x2 oNe (xL F_sighted (xsC (xVar 4) (xsC (xVar 5) (xsC (xL F__law_turned (xsC (xVar 7) (xsC (xVar 6) (xs0)))) (xs0))))) (xL oTup1 (xsC (xL F__law_due (xsC (xVar 2) (xsC (xVar 5) (xsC (xVar 7) (xs0))))) (xs0))))) (sThen (sRet (xC (.bl false))) (sNext)) (sNext)) (sNext)))) (sNext))))) (sThen (sRet (xC (.bl true))) (sNext))
end BP
namespace BP
open PySem
/-- a comprehension over items told by h -/
theorem cL_map {α : Type} {g : Gx} {p : Tx} {f : Ex} {δ : En} (e : α → D) (b : α → Bool) (h : α → D) : ∀ l : List α, (∀ x ∈ l, ∃ δ', g (e x) δ = some δ' ∧ p δ' = some (b x) ∧ (b x = true → f δ' = some (h x))) → cL g p f δ (l.map e) = some ((l.filter b).map h)
  | [], _ => rfl
  | x :: r, hx => by
    obtain ⟨δ', h1, h2, h3⟩ := hx x (by simp)
    have ih := cL_map e b h r fun y hy => hx y (by simp [hy])
    simp only [List.map_cons, cL, h1, Option.bind_some, h2]
    cases hb : b x with
    | true => simp [h3 hb, ih, hb]
    | false => simp [ih, hb]
theorem cL_all {α : Type} {g : Gx} {f : Ex} {δ : En} (e : α → D) (h : α → D) (l : List α) (hx : ∀ x ∈ l, ∃ δ', g (e x) δ = some δ' ∧ f δ' = some (h x)) : cL g tTrue f δ (l.map e) = some (l.map h) := by
  have := cL_map (g := g) (p := tTrue) (f := f) (δ := δ) e (fun _ => true) h l fun x m => by
    obtain ⟨δ', h1, h2⟩ := hx x m
    exact ⟨δ', h1, rfl, fun _ => h2⟩
  rw [List.filter_eq_self.mpr fun _ _ => rfl] at this
  exact this
theorem boolsOf_map (l : List Bool) : boolsOf (l.map .bl) = some l := by
  induction l with
  | nil => rfl
  | cons b r ih => simp [boolsOf, ih]
theorem all_map {α : Type} (l : List α) (h : α → Bool) : oAll [.lst (l.map fun x => .bl (h x))] = some (.bl (l.all h)) := by
  have : l.map (fun x => D.bl (h x)) = (l.map h).map .bl := by simp
  show (boolsOf (l.map fun x => D.bl (h x))).map (fun bs => D.bl (bs.all id)) = _
  rw [this, boolsOf_map]
  simp
theorem any_map {α : Type} (l : List α) (h : α → Bool) : oAny [.lst (l.map fun x => .bl (h x))] = some (.bl (l.any h)) := by
  have : l.map (fun x => D.bl (h x)) = (l.map h).map .bl := by simp
  show (boolsOf (l.map fun x => D.bl (h x))).map (fun bs => D.bl (bs.any id)) = _
  rw [this, boolsOf_map]
  simp
theorem cL2_all {α β : Type} {g g2 : Gx} {src : Sx} {w : List Nat} {f : Ex} {δ : En} (e : α → D) (e1 : β → D) (inner : List β) (h : α → β → D) : ∀ l : List α, (∀ x ∈ l, ∃ δ', g (e x) δ = some δ' ∧ src δ' = some (inner.map e1) ∧ ∀ y ∈ inner, ∃ δ2, g2 (e1 y) (δ'.wipe w) = some δ2 ∧ f δ2 = some (h x y)) → cL2 g tTrue src w g2 tTrue f δ (l.map e) = some (l.flatMap fun x => inner.map (h x))
  | [], _ => rfl
  | x :: r, hx => by
    obtain ⟨δ', h1, h2, h3⟩ := hx x (by simp)
    have ih := cL2_all e e1 inner h r fun y hy => hx y (by simp [hy])
    simp only [List.map_cons, cL2, h1, Option.bind_some, tTrue, if_pos, h2, cL_all e1 (h x) inner h3, ih, List.flatMap_cons]
end BP
namespace BP
open PySem
/-- a def's answer, from its reading -/
theorem FT_is {T : Tt} {n m : Nat} {G : List D → D → Prop} {ds : List D} {d : D} (hl : ds.length = m) (ht : T (k4 d) (startE n ds)) (hg : G ds d) (hu : ∀ d', G ds d' → d' = d) : FT T n m G ds = some d := by
  obtain ⟨d', h1, h2⟩ := FT_ex (T := T) (n := n) (m := m) (G := G) (ds := ds) ⟨d, ⟨hl, ht⟩, hg⟩
  rw [h1, hu d' h2]
theorem ex_is_name (s : Str) (h : nameOk s) : F_is_name [.str s] = some (.bl true) := by
  refine FT_is rfl ?_ (fun s' _ _ => rfl) (fun d' hd => hd s rfl h)
  obtain ⟨l1, l8, hs⟩ := h
  have e1 : startE 2 [.str s] = [some (.sh (.str s)), none] := rfl
  rw [e1]
  have hl : (s.length : Nat) ≤ most := by unfold most; omega
  have ev : xLc (sStr (xVar 0)) [1] (gN 1) (tTrue) (x2 oInS (bVar 1) (xC (.str "abcdefghijklmnopqrstuvwxyz"))) [some (.sh (.str s)), none] = some (.lst (s.cps.toList.map fun c => .bl (decide (c ∈ (Str.ofString "abcdefghijklmnopqrstuvwxyz").cps.toList)))) := by
    have hz : s.cps.size ≤ most := hl
    simp only [xLc, sStr, xVar, En.sh, List.getElem?_cons_zero, Option.bind_some, if_pos hz, En.wipe]
    rw [cL_all (fun c => D.str ⟨#[c]⟩) (fun c => D.bl (decide (c ∈ (Str.ofString "abcdefghijklmnopqrstuvwxyz").cps.toList)))]
    · rfl
    · intro c _
      exact ⟨_, rfl, rfl⟩
  have hall : s.cps.toList.all (fun c => decide (c ∈ (Str.ofString "abcdefghijklmnopqrstuvwxyz").cps.toList)) = true := by
    exact List.all_eq_true.mpr fun c hc => decide_eq_true (hs c hc)
  have t1 : (1 : Int) ≤ s.length := by omega
  have t2 : (s.length : Int) ≤ 8 := by omega
  refine ⟨false, ?_, ?_⟩
  · simp [BP.tOr, tNot, tB, x1, bVar, En.any, oIsi, tyN, tyIs, xCh, xL, xsC, xs0, xC, oLe, oLen, hl, t1, t2]
  · refine ⟨.bl true, ?_, rfl⟩
    simp only [xL, xsC, xs0, Option.bind_some]
    rw [ev]
    simp only [Option.bind_some]
    rw [all_map, hall]
theorem seen_nodup : ∀ (l acc : List D), l.Nodup → (∀ x ∈ l, x ∉ acc) → seenOf l acc = acc ++ l
  | [], acc, _, _ => by simp [seenOf]
  | d :: r, acc, nd, h => by
    rw [List.nodup_cons] at nd
    unfold seenOf
    rw [if_neg (h d (by simp)), seen_nodup r (acc ++ [d]) nd.2 fun x hx => by
      simp only [List.mem_append, List.mem_singleton, not_or]
      exact ⟨h x (by simp [hx]), fun e => nd.1 (e ▸ hx)⟩]
    simp
theorem str_nodup {l : List Str} (h : l.Nodup) : (l.map D.str).Nodup := by
  refine List.Pairwise.map _ (fun a b hab e => hab ?_) h
  injection e
theorem all_key (l : List Str) : (l.map D.str).all keyOk = true := by simp [List.all_map, keyOk]
theorem lenSc {l : List Str} {i j : Nat} {δ : En} (h : δ.sh i = some (eL l)) (hj : j < δ.length) (hw : i ≠ j) (nd : l.Nodup) (hl : l.length ≤ 1000) : xLenSc (sLst (xVar i)) [j] (gN j) (xVar j) δ = some (.int l.length) := by
  unfold xLenSc sLst xVar
  rw [h]
  simp only [eL, Option.bind_some]
  rw [cL_all D.str D.str l fun x _ => ⟨_, rfl, by simp [En.sh, En.put, En.wipe, hj]⟩]
  simp only [Option.bind_some]
  rw [if_pos ⟨all_key l, by simp; omega⟩, seen_nodup _ [] (str_nodup nd) (by simp)]
  simp
theorem mem_str {x : Str} {l : List Str} : (D.str x ∈ l.map D.str) ↔ x ∈ l := by simp
theorem ex_are_some (l names : List Str) (n : Int) (nd : l.Nodup) (hs : ∀ x ∈ l, x ∈ names) (hn : n ≤ l.length) (hl : l.length ≤ 1000) : F_are_some [eL l, eL names, .int n] = some (.bl true) := by
  refine FT_is rfl ?_ (fun _ _ _ _ _ _ _ _ => rfl) (fun d' hd => hd l names n rfl nd hs hn hl)
  have e1 : startE 4 [eL l, eL names, .int n] = [some (.sh (eL l)), some (.sh (eL names)), some (.sh (.int n)), none] := rfl
  rw [e1]
  have ev : xLc (sLst (xVar 0)) [3] (gN 3) (tTrue) (xAnd (tB (x1 (oIsi "str") (bVar 3))) (x2 oIn (bVar 3) (bVar 1))) [some (.sh (eL l)), some (.sh (eL names)), some (.sh (.int n)), none] = some (.lst (l.map fun x => .bl (decide (x ∈ names)))) := by
    simp only [xLc, sLst, xVar, En.sh, List.getElem?_cons_zero, Option.bind_some, eL]
    rw [cL_all D.str (fun x => D.bl (decide (x ∈ names)))]
    · rfl
    · intro x _
      refine ⟨_, rfl, ?_⟩
      simp [xAnd, tB, x1, x2, bVar, En.any, En.put, En.wipe, oIsi, tyN, tyIs, oIn, keyOk, List.all_map]
  have hall : l.all (fun x => decide (x ∈ names)) = true := List.all_eq_true.mpr fun x hx => decide_eq_true (hs x hx)
  have hn' : ¬ (l.length : Int) < n := by omega
  refine ⟨false, ?_, ?_⟩
  · simp [BP.tOr, tNot, tB, x1, x2, bVar, En.any, oIsi2, tyN, tyIs, xL, xsC, xs0, xC, oLt, oLen, eL, hn']
  · refine ⟨false, ?_, ?_⟩
    · simp only [tNot, tB, xL, xsC, xs0, Option.bind_some]
      rw [ev]
      simp only [Option.bind_some]
      rw [all_map, hall]
      rfl
    · refine ⟨.bl true, ?_, rfl⟩
      simp only [x2]
      rw [lenSc (l := l) rfl (by simp) (by decide) nd hl]
      simp [xL, xsC, xs0, bVar, En.any, eL, oLen, oEq, plainD]
theorem ex_are_letters (w : Wb) (ok : w.Ok) : F_are_letters [eL w.letters] = some (.bl true) := by
  refine FT_is rfl ?_ (fun _ _ _ => rfl) (fun d' hd => hd w rfl ok)
  have e1 : startE 2 [eL w.letters] = [some (.sh (eL w.letters)), none] := rfl
  rw [e1]
  have ev : xLc (sLst (xVar 0)) [1] (gN 1) (tTrue) (xL F_is_name (xsC (xVar 1) (xs0))) [some (.sh (eL w.letters)), none] = some (.lst (w.letters.map fun x => .bl true)) := by
    simp only [xLc, sLst, xVar, En.sh, List.getElem?_cons_zero, Option.bind_some, eL]
    rw [cL_all D.str (fun x => D.bl true)]
    · rfl
    · intro x hx
      refine ⟨_, rfl, ?_⟩
      simp [xL, xsC, xs0, xVar, En.put, En.wipe, En.sh, ex_is_name x (ok.ln x hx)]
  have hall : w.letters.all (fun x => true) = true := by simp
  have l1 := ok.l1
  have l3 := ok.l3
  have t1 : (1 : Int) ≤ w.letters.length := by omega
  have t2 : (w.letters.length : Int) ≤ 3 := by omega
  refine ⟨false, ?_, ?_⟩
  · simp [BP.tOr, tNot, tB, x1, bVar, En.any, oIsi2, tyN, tyIs, xCh, xL, xsC, xs0, xC, oLe, oLen, eL, t1, t2]
  · refine ⟨.bl true, ?_, rfl⟩
    simp only [xAnd, tB, xL, xsC, xs0, Option.bind_some]
    rw [ev]
    simp only [Option.bind_some]
    rw [all_map w.letters (fun _ => true), hall]
    simp only [Option.bind_some, if_pos, x2]
    rw [lenSc (l := w.letters) rfl (by simp) (by decide) ok.ld (by omega)]
    simp [xL, xsC, xs0, bVar, En.any, eL, oLen, oEq, plainD]
theorem ex_are_places (w : Wb) (ok : w.Ok) : F_are_places [eK w.spots] = some (.bl true) := by
  refine FT_is rfl ?_ (fun _ _ _ => rfl) (fun d' hd => hd w rfl ok)
  have e1 : startE 3 [eK w.spots] = [some (.sh (eK w.spots)), none, none] := rfl
  rw [e1]
  have ev : xLc (sDct (xVar 0) dItems) [1, 2] (gT (gsC (gN 1) (gsC (gN 2) (gs0)))) (tTrue) (xAnd (tB (xL F_is_name (xsC (xVar 1) (xs0)))) (xL F_is_name (xsC (xVar 2) (xs0)))) [some (.sh (eK w.spots)), none, none] = some (.lst (w.spots.map fun x => .bl true)) := by
    simp only [xLc, sDct, dItems, xVar, En.sh, List.getElem?_cons_zero, Option.bind_some, eK, List.map_map, Function.comp_def]
    rw [cL_all (fun p : Str × Str => D.tup [.str p.1, .str p.2]) (fun x => D.bl true)]
    · rfl
    · intro x hx
      refine ⟨_, rfl, ?_⟩
      have h := ok.pn x hx
      simp [xAnd, tB, xL, xsC, xs0, xVar, En.put, En.wipe, En.sh, ex_is_name _ h.1, ex_is_name _ h.2]
  have l1 : 1 ≤ w.spots.length := by have := ok.p1; simpa [Wb.places] using this
  have l6 : w.spots.length ≤ 6 := by have := ok.p6; simpa [Wb.places] using this
  have t1 : (1 : Int) ≤ w.spots.length := by omega
  have t2 : (w.spots.length : Int) ≤ 6 := by omega
  refine ⟨false, ?_, ?_⟩
  · simp [BP.tOr, tNot, tB, x1, bVar, En.any, oIsi, tyN, tyIs, xCh, xL, xsC, xs0, xC, oLe, oLen, eK, t1, t2]
  · refine ⟨.bl true, ?_, rfl⟩
    simp only [xL, xsC, xs0, Option.bind_some]
    rw [ev]
    simp only [Option.bind_some]
    rw [all_map w.spots (fun _ => true)]
    simp
theorem len_L (l : List Str) : oLen [eL l] = some (.int l.length) := by simp [oLen, eL]
theorem pairs_len (ps ls : List Str) : (pairs ps ls).length = ps.length * ls.length := by
  unfold pairs
  induction ps with
  | nil => simp
  | cons p r ih => simp only [List.flatMap_cons, List.length_append, List.length_map, ih, List.length_cons, Nat.succ_mul]; omega
theorem mem_pairs {ps ls : List Str} {q : Str × Str} : q ∈ pairs ps ls ↔ q.1 ∈ ps ∧ q.2 ∈ ls := by
  unfold pairs
  simp only [List.mem_flatMap, List.mem_map]
  constructor
  · rintro ⟨p, hp, l, hl, rfl⟩; exact ⟨hp, hl⟩
  · rintro ⟨h1, h2⟩; exact ⟨q.1, h1, q.2, h2, rfl⟩
theorem look_pairs (v : Str → Str → D) (p l : Str) : ∀ L : List (Str × Str), (p, l) ∈ L → dLook (.tup [.str p, .str l]) (L.map fun q => (.tup [.str q.1, .str q.2], v q.1 q.2)) = some (v p l)
  | [], h => by simp at h
  | q :: r, h => by
    simp only [List.map_cons, dLook]
    by_cases e : D.tup [.str q.1, .str q.2] = D.tup [.str p, .str l]
    · rw [if_pos e]
      simp only [D.tup.injEq, List.cons.injEq, D.str.injEq, and_true] at e
      rw [e.1, e.2]
    · rw [if_neg e]
      refine look_pairs v p l r ?_
      rcases List.mem_cons.mp h with h | h
      · exact absurd (by rw [← h]) e
      · exact h
theorem look_W {ps ls : List Str} (v : Str → Str → D) {p l : Str} (hp : p ∈ ps) (hl : l ∈ ls) : dLook (.tup [.str p, .str l]) ((pairs ps ls).map fun q => (.tup [.str q.1, .str q.2], v q.1 q.2)) = some (v p l) := look_pairs v p l _ (mem_pairs.mpr ⟨hp, hl⟩)
theorem key_pair (p l : Str) : keyTOk (.tup [.str p, .str l]) = true := rfl
theorem most_ge {n : Nat} (h : n ≤ 1000) : n ≤ most := Nat.le_trans h (by decide)
theorem ways_pairs (w : Wb) (ok : w.Ok) (W : D) : xLc2 (sLst (xVar 2)) [4, 5] (gN 4) (sLst (xVar 1)) [5] (gN 5) (xL oTup (xsC (xVar 4) (xsC (xVar 5) (xs0)))) [some (.sh W), some (.sh (eL w.letters)), some (.sh (eL w.places)), none, none, none, none] = some (.lst ((pairs w.places w.letters).map fun q => .tup [.str q.1, .str q.2])) := by
  simp only [xLc2, sLst, xVar, En.sh, List.getElem?_cons_succ, List.getElem?_cons_zero, Option.bind_some, eL]
  rw [cL2_all D.str D.str w.letters (fun p l => D.tup [.str p, .str l])]
  · have e2 : (w.places.flatMap fun x => w.letters.map fun l => D.tup [.str x, .str l]) = (pairs w.places w.letters).map fun q => D.tup [.str q.1, .str q.2] := by
      unfold pairs
      rw [List.map_flatMap]
      simp [List.map_map, Function.comp_def]
    have hb : (pairs w.places w.letters).length ≤ 1000 := by
      rw [pairs_len]
      have : w.places.length * w.letters.length ≤ 6 * 3 := Nat.mul_le_mul ok.p6 ok.l3
      omega
    rw [e2, Option.bind_some, if_pos (most_ge (by rw [List.length_map]; exact hb))]
  · intro p hp
    refine ⟨_, rfl, ?_, fun l hl => ⟨_, rfl, ?_⟩⟩
    · simp [sLst, xVar, En.put, En.wipe, En.sh]
    · simp only [xL, xsC, xs0, xVar, En.put, En.wipe, En.sh, oTup, List.set_cons_succ, List.set_cons_zero, List.getElem?_cons_succ, List.getElem?_cons_zero, Option.bind_some]
      rw [if_pos (most_ge (by simp))]
theorem ways_ev (w : Wb) (ok : w.Ok) (W : D) (hW : (eW w.places w.letters fun p l => eL (w.way p l)) = W) : xLc (sLst (xVar 3)) [6] (gN 6) (tTrue) (xAnd (tB (x2 oIn (bVar 6) (bVar 0))) (xL F_are_some (xsC (x2 oSub2 (bVar 0) (xVar 6)) (xsC (xVar 2) (xsC (xC (.int 1)) (xs0)))))) (En.put [some (.sh W), some (.sh (eL w.letters)), some (.sh (eL w.places)), none, none, none, none] 3 (.sh (.lst ((pairs w.places w.letters).map fun q => .tup [.str q.1, .str q.2])))) = some (.lst ((pairs w.places w.letters).map fun x => .bl true)) := by
  simp only [xLc, sLst, xVar, En.sh, En.put, List.set_cons_succ, List.set_cons_zero, List.getElem?_cons_succ, List.getElem?_cons_zero, Option.bind_some]
  rw [cL_all (fun q : Str × Str => D.tup [.str q.1, .str q.2]) (fun x => D.bl true)]
  · rfl
  · intro q hq
    obtain ⟨h1, h2⟩ := mem_pairs.mp hq
    obtain ⟨n1, n2, n3⟩ := ok.wd _ h1 _ h2
    have lk := look_W (ls := w.letters) (fun p l => eL (w.way p l)) h1 h2
    have i1 : oIn (.tup [.str q.1, .str q.2]) W = some (.bl true) := by
      rw [← hW]
      simp only [oIn, eW, key_pair, if_pos, lk]
      rfl
    have i2 : oSub2 W (.tup [.str q.1, .str q.2]) = some (eL (w.way q.1 q.2)) := by
      rw [← hW]
      simp only [oSub2, oGet, eW, key_pair, if_pos, lk]
    have n5 := n1.length_le_of_subset n2
    have p6 := ok.p6
    have i3 := ex_are_some (w.way q.1 q.2) w.places 1 n1 n2 (by omega) (by omega)
    refine ⟨_, rfl, ?_⟩
    simp [xAnd, tB, x2, xL, xsC, xs0, xC, xVar, bVar, En.put, En.wipe, En.sh, En.any, i1, i2, i3]
theorem ne_int (n : Int) : oNe (.int n) (.int n) = some (.bl false) := by simp [oNe, plainD]
theorem ways_t {W A B : D} {n m k : Int} (i1 : oIsi "dict" W = some (.bl true)) (ln : oLen [W] = some (.int k)) (la : oLen [A] = some (.int n)) (lb : oLen [B] = some (.int m)) (b : oMul (.int n) (.int m) = some (.int k)) : BP.tOr (tNot (tB (x1 (oIsi "dict") (bVar 0)))) (tB (x2 oNe (xL oLen (xsC (bVar 0) (xs0))) (x2 oMul (xL oLen (xsC (bVar 1) (xs0))) (xL oLen (xsC (bVar 2) (xs0)))))) [some (.sh W), some (.sh A), some (.sh B), none, none, none, none] = some false := by
  simp only [BP.tOr, tNot, tB, x1, x2, bVar, En.any, List.getElem?_cons_succ, List.getElem?_cons_zero, xL, xsC, xs0, i1, ln, la, lb, Option.bind_some, Option.map_some, b, ne_int]
  rfl
theorem mul_len (a b : Nat) (h : a ≤ 3) : oMul (.int (a : Nat)) (.int (b : Nat)) = some (.int ((a * b : Nat) : Int)) := by
  simp only [oMul]
  rw [if_pos (.inl ⟨by omega, by omega⟩)]
  simp
theorem ex_are_ways (w : Wb) (ok : w.Ok) : F_are_ways [eW w.places w.letters fun p l => eL (w.way p l), eL w.letters, eL w.places] = some (.bl true) := by
  refine FT_is rfl ?_ (fun _ _ _ => rfl) (fun d' hd => hd w rfl ok)
  generalize hW : (eW w.places w.letters fun p l => eL (w.way p l)) = W
  have e1 : startE 7 [W, eL w.letters, eL w.places] = [some (.sh W), some (.sh (eL w.letters)), some (.sh (eL w.places)), none, none, none, none] := rfl
  rw [e1]
  have l3 := ok.l3
  have p6 := ok.p6
  have ln : oLen [W] = some (.int (w.letters.length * w.places.length : Nat)) := by
    rw [← hW]
    simp only [eW, oLen, List.length_map, pairs_len, Nat.mul_comm]
  have i1 : oIsi "dict" W = some (.bl true) := by rw [← hW]; rfl
  refine ⟨false, ?_, ?_⟩
  · exact ways_t i1 ln (len_L _) (len_L _) (mul_len _ _ l3)
  · refine ⟨.sh (.lst ((pairs w.places w.letters).map fun q => .tup [.str q.1, .str q.2])), ?_, .bl true, ?_, rfl⟩
    · simp only [nSh]
      rw [ways_pairs w ok W]
      rfl
    · simp only [xL, xsC, xs0, Option.bind_some]
      rw [ways_ev w ok W hW]
      simp only [Option.bind_some]
      rw [all_map _ (fun _ => true)]
      simp
end BP
namespace BP
open PySem
theorem in_L (x : Str) (l : List Str) : oIn (.str x) (eL l) = some (.bl (decide (x ∈ l))) := by
  simp only [oIn, eL]
  rw [if_pos ⟨rfl, all_key l⟩]
  simp
theorem in_T (x : Str) (l : List Str) : oIn (.str x) (eT l) = some (.bl (decide (x ∈ l))) := by
  simp only [oIn, eT]
  rw [if_pos ⟨rfl, all_key l⟩]
  simp
theorem notIn_L (x : Str) (l : List Str) : oNotIn (.str x) (eL l) = some (.bl (!decide (x ∈ l))) := by
  simp [oNotIn, in_L]
theorem keys_K (l : List (Str × Str)) : sDct (xC (eK l)) dKeys [] = some ((l.map (·.1)).map .str) := by
  simp [sDct, xC, eK, dKeys, List.map_map, Function.comp_def]
/-- the keys of a dict of texts -/
theorem dk_of {a : Ex} {δ : En} {l : List (Str × Str)} (h : a δ = some (eK l)) : sDct a dKeys δ = some ((l.map (·.1)).map .str) := by
  simp [sDct, h, eK, dKeys, List.map_map, Function.comp_def]
/-- [place for place in a dict if test] -/
theorem lc_keys {a : Ex} {δ : En} {l : List (Str × Str)} {i : Nat} {t : Tx} {b : Str → Bool} (h : a δ = some (eK l)) (hi : i < δ.length) (ht : ∀ p ∈ l.map (·.1), t ((δ.wipe [i]).put i (.sh (.str p))) = some (b p)) : xLc (sDct a dKeys) [i] (gN i) t (xVar i) δ = some (eL ((l.map (·.1)).filter b)) := by
  unfold xLc
  rw [dk_of h, Option.bind_some]
  rw [cL_map D.str b D.str _ fun p hp => ⟨_, rfl, ht p hp, fun _ => by simp [xVar, En.sh, En.put, En.wipe, hi]⟩]
  rfl
/-- .. in a list of texts -/
theorem lc_list {a : Ex} {δ : En} {l : List Str} {i : Nat} {t : Tx} {b : Str → Bool} (h : a δ = some (eL l)) (hi : i < δ.length) (ht : ∀ p ∈ l, t ((δ.wipe [i]).put i (.sh (.str p))) = some (b p)) : xLc (sLst a) [i] (gN i) t (xVar i) δ = some (eL (l.filter b)) := by
  unfold xLc sLst
  rw [h]
  simp only [eL, Option.bind_some]
  rw [cL_map D.str b D.str _ fun p hp => ⟨_, rfl, ht p hp, fun _ => by simp [xVar, En.sh, En.put, En.wipe, hi]⟩]
  rfl
theorem tup1 (l : List Str) : oTup1 [eL l] = some (eT l) := rfl
theorem list1 (l : List Str) : oList [eL l] = some (eL l) := rfl
theorem listK (l : List (Str × Str)) : oList [eK l] = some (eL (l.map (·.1))) := by simp [oList, eK, eL, List.map_map, Function.comp_def]
theorem ex_in_turn (w : Wb) (fs : List (Str × D)) (some_ : List Str) (hk : fs.lookup ("known" : Str) = some (eK w.spots)) : F_in_turn [.obj 0 fs, eL some_] = some (eT (w.inT some_)) := by
  refine FT_is rfl ?_ (fun w' fs' s' e h => ?_) (fun d' hd => hd w fs some_ rfl hk)
  · have e1 : startE 3 [.obj 0 fs, eL some_] = [some (.sh (.obj 0 fs)), some (.sh (eL some_)), none] := rfl
    rw [e1]
    refine ⟨eT (w.inT some_), ?_, rfl⟩
    have ev := lc_keys (a := x1 (oFldC 0 "known") (xVar 0)) (δ := [some (.sh (.obj 0 fs)), some (.sh (eL some_)), none]) (i := 2) (t := tB (x2 oIn (bVar 2) (bVar 1))) (b := fun p => decide (p ∈ some_)) (l := w.spots) (by simp [x1, xVar, En.sh, oFldC, hk]) (by simp) fun p hp => by simp [tB, x2, bVar, En.any, En.put, En.wipe, in_L]
    simp only [xL, xsC, xs0, Option.bind_some]
    rw [ev, Option.bind_some, Option.bind_some, tup1]
    rfl
  · simp only [List.cons.injEq, D.obj.injEq, true_and, and_true] at e
    obtain ⟨rfl, e2⟩ := e
    rw [hk] at h
    simp only [Option.some.injEq, eK, D.dct.injEq] at h
    have hp : w.places = w'.places := by
      have := congrArg (List.map (·.1)) h
      simp only [List.map_map, Function.comp_def] at this
      have inj : ∀ a b : List Str, a.map D.str = b.map D.str → a = b := fun a b e => List.map_inj_right (fun x y e => by injection e) |>.mp e
      refine inj _ _ ?_
      simpa [Wb.places, List.map_map, Function.comp_def] using this
    have hs : some_ = s' := by
      simp only [eL, D.lst.injEq] at e2
      exact (List.map_inj_right (fun x y e => by injection e)).mp e2
    unfold Wb.inT
    rw [hp, hs]
theorem ex_check_goal (w : Wb) (goal : Str) (l : List Str) (hg : goal ∈ (["keep", "come", "again"] : List Str)) (nd : l.Nodup) (hs : ∀ x ∈ l, x ∈ w.places) (hl : l.length ≤ 1000) : F_check_goal [w.obj, .str goal, eL l] = some .non := by
  refine FT_is rfl ?_ rfl (fun d' hd => hd)
  have e1 : startE 3 [w.obj, .str goal, eL l] = [some (.sh w.obj), some (.sh (.str goal)), some (.sh (eL l))] := rfl
  rw [e1]
  have h1 : F_are_some [eL l, eL w.places, .int 0] = some (.bl true) := ex_are_some l w.places 0 nd hs (by omega) hl
  have h2 : oFldC 0 "known" w.obj = some (eK w.spots) := rfl
  have h3 : oList [eK w.spots] = some (eL w.places) := listK _
  have h4 : oNotInG ["keep", "come", "again"] (.str goal) = some (.bl false) := by simp only [oNotInG, decide_eq_true hg]; rfl
  refine ⟨false, ?_, rfl⟩
  simp only [BP.tOr, tNot, tB, x1, bVar, xVar, En.any, En.sh, List.getElem?_cons_succ, List.getElem?_cons_zero, xL, xsC, xs0, xC, Option.bind_some, Option.map_some, h1, h2, h3, h4]
  rfl
end BP
namespace BP
open PySem
theorem strs_inj {a b : List Str} (e : a.map D.str = b.map D.str) : a = b := (List.map_inj_right (fun x y e => by injection e)).mp e
theorem eL_inj {a b : List Str} (e : eL a = eL b) : a = b := strs_inj (by simpa [eL] using e)
theorem eT_inj {a b : List Str} (e : eT a = eT b) : a = b := strs_inj (by simpa [eT] using e)
theorem eK_inj {a b : List (Str × Str)} (e : eK a = eK b) : a = b := by
  simp only [eK, D.dct.injEq] at e
  refine (List.map_inj_right (fun x y e => ?_)).mp e
  simp only [Prod.mk.injEq, D.str.injEq] at e
  exact Prod.ext e.1 e.2
theorem eW_at {ps ls : List Str} {v v' : Str → Str → D} (e : eW ps ls v = eW ps ls v') {p l : Str} (hp : p ∈ ps) (hl : l ∈ ls) : v p l = v' p l := by
  simp only [eW, D.dtt.injEq] at e
  have h1 := look_W v hp hl
  have h2 := look_W v' hp hl
  rw [e, h2] at h1
  exact (Option.some.inj h1).symm
/-- two webs that the program can't tell apart -/
structure Same (w v : Wb) : Prop where
  l : w.letters = v.letters
  p : w.places = v.places
  i : ∀ p ∈ w.places, ∀ l ∈ w.letters, w.inT (w.way p l) = v.inT (v.way p l)
theorem same_obj {w v : Wb} (e : w.obj = v.obj) : Same w v := by
  simp only [Wb.obj, Wb.fields, D.obj.injEq, List.cons.injEq, Prod.mk.injEq, true_and, and_true] at e
  obtain ⟨e1, e2, e3, e4⟩ := e
  have h1 := eL_inj e1
  have h2 := eK_inj e2
  have hp : w.places = v.places := by unfold Wb.places; rw [h2]
  refine ⟨h1, hp, fun p hpp l hl => ?_⟩
  rw [← hp, ← h1] at e4
  exact eT_inj (eW_at e4 hpp hl)
theorem same_parts {w v : Wb} (e : w.parts = v.parts) : Same w v := by
  simp only [Wb.parts, List.cons.injEq, and_true] at e
  obtain ⟨e1, e2, e3, e4⟩ := e
  have h1 := eL_inj e1
  have h2 := eK_inj e2
  have hp : w.places = v.places := by unfold Wb.places; rw [h2]
  refine ⟨h1, hp, fun p hpp l hl => ?_⟩
  rw [← hp, ← h1] at e4
  unfold Wb.inT
  rw [eL_inj (eW_at e4 hpp hl), hp]
section
variable {w v : Wb} (S : Same w v)
include S
theorem can_same {p : Str} (hp : p ∈ w.places) (s : List Str) : w.can p s = v.can p s := by
  unfold Wb.can
  rw [← S.l]
  refine Bool.eq_iff_iff.mpr ?_
  simp only [List.any_eq_true]
  constructor
  · rintro ⟨l, hl, h⟩; exact ⟨l, hl, by rw [← S.i p hp l hl]; exact h⟩
  · rintro ⟨l, hl, h⟩; exact ⟨l, hl, by rw [S.i p hp l hl]; exact h⟩
theorem kept_same {s : List Str} (hs : ∀ x ∈ s, x ∈ w.places) : w.kept s = v.kept s := by
  unfold Wb.kept
  exact List.filter_congr fun x hx => can_same S (hs x hx) s
theorem grow_same : w.grow = v.grow := by
  funext s
  unfold Wb.grow
  rw [← S.p]
  exact List.filter_congr fun x hx => by rw [can_same S hx s]
theorem inT_same (s : List Str) : w.inT s = v.inT s := by unfold Wb.inT; rw [S.p]
theorem brought_same (s : List Str) : w.brought s = v.brought s := by unfold Wb.brought; rw [grow_same S, inT_same S]
theorem again_same {s : List Str} (hs : ∀ x ∈ s, x ∈ w.places) : w.again s = v.again s := by
  unfold Wb.again
  exact List.filter_congr fun x hx => by rw [can_same S (hs x hx), brought_same S]
theorem times_same {f g : List Str → List Str} {P : List Str → Prop} (h : ∀ s, P s → f s = g s ∧ P (f s)) : ∀ (n : Nat) {s : List Str}, P s → times f n s = times g n s
  | 0, _, _ => rfl
  | n + 1, s, hs => by
    obtain ⟨h1, h2⟩ := h s hs
    show times f n (f s) = times g n (g s)
    rw [times_same h n h2, h1]
theorem due_same (goal : Str) (s : List Str) : w.due goal s = v.due goal s := by
  unfold Wb.due
  rw [brought_same S, inT_same S, ← S.p]
  have h1 : times w.kept 7 (w.places.filter (· ∉ s)) = times v.kept 7 (w.places.filter (· ∉ s)) := times_same S (P := fun s => ∀ x ∈ s, x ∈ w.places) (fun s hs => ⟨kept_same S hs, fun x hx => hs x (List.mem_filter.mp hx).1⟩) 7 fun x hx => (List.mem_filter.mp hx).1
  have h2 : times w.again 7 (v.inT s) = times v.again 7 (v.inT s) := times_same S (P := fun s => ∀ x ∈ s, x ∈ w.places) (fun s hs => ⟨again_same S hs, fun x hx => hs x (List.mem_filter.mp hx).1⟩) 7 fun x hx => by rw [S.p]; exact (List.mem_filter.mp hx).1
  rw [h1, h2, brought_same S]
end
theorem obj_moves (w : Wb) : oFldC 0 "moves" w.obj = some (eL w.letters) := rfl
theorem obj_known (w : Wb) : oFldC 0 "known" w.obj = some (eK w.spots) := rfl
theorem obj_leads (w : Wb) : oFldC 0 "leads" w.obj = some (eW w.places w.letters fun p l => eT (w.inT (w.way p l))) := rfl
theorem sub_W {ps ls : List Str} (v : Str → Str → D) {p l : Str} (hp : p ∈ ps) (hl : l ∈ ls) : oSub2 (eW ps ls v) (.tup [.str p, .str l]) = some (v p l) := by
  simp only [oSub2, oGet, eW, key_pair, if_pos, look_W v hp hl]
theorem tup2 (a b : D) : oTup [a, b] = some (.tup [a, b]) := by
  unfold oTup
  rw [if_pos (most_ge (by simp))]
theorem ex_can_stay (w : Wb) (p : Str) (s : List Str) (ok : w.Ok) (hp : p ∈ w.places) : F_can_stay [w.obj, .str p, eL s] = some (.bl (w.can p s)) := by
  refine FT_is rfl ?_ (fun w' p' s' e ok' hp' => ?_) (fun d' hd => hd w p s rfl ok hp)
  · have e1 : startE 5 [w.obj, .str p, eL s] = [some (.sh w.obj), some (.sh (.str p)), some (.sh (eL s)), none, none] := rfl
    rw [e1]
    refine ⟨.bl (w.can p s), ?_, rfl⟩
    have inner : ∀ l ∈ w.letters, xL oAll (xsC (xLc (sTups (x2 oSub2 (x1 (oFldC 0 "leads") (bVar 0)) (xL oTup (xsC (xVar 1) (xsC (xVar 3) (xs0)))))) [4] (gN 4) (tTrue) (x2 oIn (bVar 4) (bVar 2))) (xs0)) [some (.sh w.obj), some (.sh (.str p)), some (.sh (eL s)), some (.sh (.str l)), none] = some (.bl ((w.inT (w.way p l)).all (· ∈ s))) := fun l hl => by
      have h1 : sTups (x2 oSub2 (x1 (oFldC 0 "leads") (bVar 0)) (xL oTup (xsC (xVar 1) (xsC (xVar 3) (xs0))))) [some (.sh w.obj), some (.sh (.str p)), some (.sh (eL s)), some (.sh (.str l)), none] = some ((w.inT (w.way p l)).map .str) := by
        simp only [sTups, x2, x1, bVar, xVar, En.any, En.sh, List.getElem?_cons_succ, List.getElem?_cons_zero, xL, xsC, xs0, Option.bind_some, obj_leads, tup2, sub_W _ hp hl]
        rfl
      simp only [xL, xsC, xs0, Option.bind_some, xLc]
      rw [h1, Option.bind_some, cL_all D.str (fun x => D.bl (decide (x ∈ s))) _ fun x hx => ⟨_, rfl, by simp [x2, bVar, En.any, En.put, En.wipe, in_L]⟩]
      simp only [Option.map_some, Option.bind_some]
      rw [all_map]
    simp only [xL, xsC, xs0, Option.bind_some, xLc, sLst, x1, bVar, En.any, List.getElem?_cons_zero, obj_moves, eL]
    rw [cL_all D.str (fun l => D.bl ((w.inT (w.way p l)).all (· ∈ s))) _ fun l hl => ⟨_, rfl, inner l hl⟩]
    simp only [Option.map_some, Option.bind_some]
    rw [any_map]
    rfl
  · simp only [List.cons.injEq, D.str.injEq, and_true] at e
    obtain ⟨e1, rfl, e3⟩ := e
    rw [can_same (same_obj e1) hp, eL_inj e3]
theorem ex_kept_in (w : Wb) (s : List Str) (ok : w.Ok) (hs : ∀ x ∈ s, x ∈ w.places) : F_kept_in [w.obj, eL s] = some (eL (w.kept s)) := by
  refine FT_is rfl ?_ (fun w' s' e ok' hs' => ?_) (fun d' hd => hd w s rfl ok hs)
  · have e1 : startE 3 [w.obj, eL s] = [some (.sh w.obj), some (.sh (eL s)), none] := rfl
    rw [e1]
    refine ⟨eL (w.kept s), ?_, rfl⟩
    exact lc_list (a := xVar 1) (b := fun p => w.can p s) rfl (by simp) fun p hp => by simp [tB, xL, xsC, xs0, xVar, En.sh, En.put, En.wipe, ex_can_stay w p s ok (hs p hp)]
  · simp only [List.cons.injEq, and_true] at e
    obtain ⟨e1, e2⟩ := e
    have h := eL_inj e2
    subst h
    rw [kept_same (same_obj e1) hs]
end BP
namespace BP
open PySem
section
variable {f : List Str → List Str} {P : List Str → Prop} {μ : List Str → Nat}
theorem times_fix {s : List Str} (h : f s = s) : ∀ n, times f n s = s
  | 0 => rfl
  | n + 1 => by show times f n (f s) = s; rw [h]; exact times_fix h n
theorem times_add (a : List Str) : ∀ (m n : Nat), times f (m + n) a = times f n (times f m a)
  | 0, n => by rw [Nat.zero_add]; rfl
  | m + 1, n => by
    rw [Nat.add_right_comm]
    show times f (m + n) (f a) = _
    rw [times_add (f a) m n]; rfl
theorem times_P (hP : ∀ s, P s → P (f s)) : ∀ (n : Nat) {s : List Str}, P s → P (times f n s)
  | 0, _, h => h
  | n + 1, s, h => times_P hP n (hP s h)
theorem times_end (hP : ∀ s, P s → P (f s)) (hμ : ∀ s, P s → f s = s ∨ μ (f s) < μ s) : ∀ (n : Nat) {s : List Str}, P s → μ s ≤ n → f (times f n s) = times f n s
  | 0, s, h, hn => by
    rcases hμ s h with e | e
    · exact e
    · omega
  | n + 1, s, h, hn => by
    rcases hμ s h with e | e
    · rw [times_fix e]; exact e
    · exact times_end hP hμ n (hP s h) (by omega)
/-- one fixed point alone is on the way -/
theorem times_one (hP : ∀ s, P s → P (f s)) (hμ : ∀ s, P s → f s = s ∨ μ (f s) < μ s) {a s : List Str} {k n : Nat} (h : P a) (hn : μ a ≤ n) (hk : s = times f k a) (hs : f s = s) : s = times f n a := by
  have e := times_end hP hμ n h hn
  by_cases hkn : k ≤ n
  · have : times f (k + (n - k)) a = times f (n - k) (times f k a) := times_add a k (n - k)
    rw [Nat.add_sub_of_le hkn, ← hk, times_fix hs] at this
    exact this.symm
  · have : times f (n + (k - n)) a = times f (k - n) (times f n a) := times_add a n (k - n)
    rw [Nat.add_sub_of_le (by omega), ← hk, times_fix e] at this
    exact this
end
/-- a list in the places' order -/
def Wb.In (w : Wb) (s : List Str) : Prop := w.inT s = s
theorem Wb.in_inT (w : Wb) (s : List Str) : w.In (w.inT s) := by
  unfold Wb.In Wb.inT
  refine List.filter_congr fun x hx => ?_
  simp [hx]
theorem Wb.in_filter (w : Wb) (q : Str → Bool) : w.In (w.places.filter q) := by
  unfold Wb.In Wb.inT
  refine List.filter_congr fun x hx => ?_
  simp [hx]
theorem Wb.In.filter {w : Wb} {s : List Str} (h : w.In s) (q : Str → Bool) : w.In (s.filter q) := by
  rw [← h]
  unfold Wb.inT
  rw [List.filter_filter]
  exact w.in_filter _
theorem Wb.In.mem {w : Wb} {s : List Str} (h : w.In s) : ∀ x ∈ s, x ∈ w.places := fun x hx => by
  rw [← h] at hx
  exact (List.mem_filter.mp hx).1
theorem Wb.In.len {w : Wb} {s : List Str} (h : w.In s) : s.length ≤ w.places.length := by
  rw [← h]; exact List.length_filter_le _ _
theorem Wb.grow_in (w : Wb) (s : List Str) : w.In (w.grow s) := w.in_filter _
theorem filter_le {α : Type} {p q : α → Bool} : ∀ {l : List α}, (∀ x ∈ l, p x = true → q x = true) → (l.filter p).length ≤ (l.filter q).length ∧ ((l.filter p).length = (l.filter q).length → l.filter p = l.filter q)
  | [], _ => ⟨Nat.le_refl _, fun _ => rfl⟩
  | x :: r, h => by
    obtain ⟨h1, h2⟩ := filter_le (l := r) (p := p) (q := q) fun y hy => h y (by simp [hy])
    have hx := h x (by simp)
    simp only [List.filter_cons]
    cases hp : p x <;> cases hq : q x <;> simp only [hp, hq, Bool.false_eq_true, if_false, if_true, List.length_cons] at hx ⊢
    · exact ⟨h1, h2⟩
    · exact ⟨by omega, fun e => by omega⟩
    · exact absurd (hx trivial) (by simp)
    · exact ⟨by omega, fun e => by rw [h2 (by omega)]⟩
theorem Wb.grow_le {w : Wb} {s : List Str} (h : w.In s) : w.grow s = s ∨ s.length < (w.grow s).length := by
  have := filter_le (l := w.places) (p := (· ∈ s)) (q := fun p => p ∈ s || w.can p s) fun x _ hx => by simp at hx; simp [hx]
  have e : w.places.filter (· ∈ s) = s := h
  rw [e] at this
  obtain ⟨h1, h2⟩ := this
  by_cases hl : s.length = (w.grow s).length
  · exact .inl (h2 hl).symm
  · exact .inr (Nat.lt_of_le_of_ne h1 hl)
theorem filter_lt {α : Type} (q : α → Bool) (l : List α) : l.filter q = l ∨ (l.filter q).length < l.length := by
  by_cases h : (l.filter q).length = l.length
  · exact .inl (List.filter_sublist.eq_of_length h)
  · exact .inr (Nat.lt_of_le_of_ne (List.length_filter_le _ _) h)
theorem Wb.Ok.grow7 {w : Wb} (ok : w.Ok) {a s : List Str} {k : Nat} (h : w.In a) (hk : s = times w.grow k a) (hs : w.grow s = s) : s = times w.grow 7 a := by
  have p6 := ok.p6
  refine times_one (P := w.In) (μ := fun s => w.places.length - s.length) (fun s _ => w.grow_in s) (fun s hs => ?_) h (by omega) hk hs
  rcases Wb.grow_le hs with e | e
  · exact .inl e
  · have := (w.grow_in s).len
    exact .inr (by omega)
theorem Wb.Ok.kept7 {w : Wb} (ok : w.Ok) {a s : List Str} {k : Nat} (h : w.In a) (hk : s = times w.kept k a) (hs : w.kept s = s) : s = times w.kept 7 a := by
  have p6 := ok.p6
  have := h.len
  exact times_one (P := w.In) (μ := List.length) (fun s hs => hs.filter _) (fun s hs => filter_lt _ s) h (by omega) hk hs
theorem Wb.Ok.again7 {w : Wb} (ok : w.Ok) {a s : List Str} {k : Nat} (h : w.In a) (hk : s = times w.again k a) (hs : w.again s = s) : s = times w.again 7 a := by
  have p6 := ok.p6
  have := h.len
  exact times_one (P := w.In) (μ := List.length) (fun s hs => hs.filter _) (fun s hs => filter_lt _ s) h (by omega) hk hs
end BP
namespace BP
open PySem
theorem abc_plain : ∀ c ∈ (Str.ofString "abcdefghijklmnopqrstuvwxyz").cps.toList, c < 0x110000 := by decide +kernel
theorem plain_str {s : Str} (h : nameOk s) (n : Nat) : plainD n (.str s) = true := by
  have : s.cps.all (fun c => decide (c < 0x110000)) = true := by
    rw [← Array.all_toList]
    exact List.all_eq_true.mpr fun c hc => decide_eq_true (abc_plain c (h.2.2 c hc))
  cases n <;> exact this
theorem plain_L {l : List Str} (h : ∀ x ∈ l, nameOk x) : plainD 8 (eL l) = true := by
  simp only [eL, plainD, List.all_map, List.all_eq_true, Function.comp]
  exact fun x hx => plain_str (h x hx) 7
theorem plain_T {l : List Str} (h : ∀ x ∈ l, nameOk x) : plainD 8 (eT l) = true := by
  simp only [eT, plainD, List.all_map, List.all_eq_true, Function.comp]
  exact fun x hx => plain_str (h x hx) 7
theorem ne_L {a b : List Str} (ha : ∀ x ∈ a, nameOk x) (hb : ∀ x ∈ b, nameOk x) : oNe (eL a) (eL b) = some (.bl (!decide (a = b))) := by
  unfold oNe
  rw [if_pos ⟨plain_L ha, plain_L hb⟩]
  congr 3
  exact decide_eq_decide.mpr ⟨eL_inj, fun e => by rw [e]⟩
theorem eq_L {a b : List Str} (ha : ∀ x ∈ a, nameOk x) (hb : ∀ x ∈ b, nameOk x) : oEq (eL a) (eL b) = some (.bl (decide (a = b))) := by
  unfold oEq
  rw [if_pos ⟨plain_L ha, plain_L hb⟩]
  congr 2
  exact decide_eq_decide.mpr ⟨eL_inj, fun e => by rw [e]⟩
theorem ne_L0 {a : List Str} (ha : ∀ x ∈ a, nameOk x) : oNe (eL a) .non = some (.bl true) := by
  unfold oNe
  rw [if_pos ⟨plain_L ha, rfl⟩]
  simp [eL]
theorem Wb.Ok.name {w : Wb} (ok : w.Ok) : ∀ x ∈ w.places, nameOk x := fun x hx => by
  unfold Wb.places at hx
  obtain ⟨p, hp, rfl⟩ := List.mem_map.mp hx
  exact (ok.pn p hp).1
theorem ex_brought_to (w : Wb) (a : List Str) (ok : w.Ok) (ha : w.In a) : F_brought_to [w.obj, eL a] = some (eL (w.brought a)) := by
  have ea : w.inT a = a := ha
  refine FT_is rfl ?_ (fun w' a' e ok' => ?_) (fun d' hd => hd w a (by rw [ea]) ok)
  · let St : List Str → D → En := fun s b => [some (.sh w.obj), some (.sh (eL a)), some (.sh (eL s)), some (.sh b), none]
    have e1 : startE 5 [w.obj, eL a] = [some (.sh w.obj), some (.sh (eL a)), none, none, none] := rfl
    rw [e1]
    refine ⟨.sh (eL a), .sh .non, rfl, ?_⟩
    show sThen (sWhile _ _) _ _ (St a .non)
    refine ⟨fun m δ => ∃ s b, δ = St s b ∧ w.In s ∧ (∃ k, s = times w.grow k a) ∧ ((b = .non ∧ m = 20) ∨ ∃ b', b = eL b' ∧ w.In b' ∧ s = w.grow b' ∧ m = w.places.length - b'.length), ⟨20, a, .non, rfl, ha, ⟨0, rfl⟩, .inl ⟨rfl, rfl⟩⟩, ?_⟩
    rintro m δ ⟨s, b, rfl, hs, ⟨k, hk⟩, hb⟩
    have ns : ∀ x ∈ s, nameOk x := fun x hx => ok.name x (hs.mem x hx)
    have p6 := ok.p6
    -- one turn
    have turn : ∀ m', (w.places.length - s.length < m') → ∀ C : K4, (∀ δ', (∃ m'', m'' < m' ∧ ∃ s' b, δ' = St s' b ∧ w.In s' ∧ (∃ k, s' = times w.grow k a) ∧ ((b = .non ∧ m'' = 20) ∨ ∃ b', b = eL b' ∧ w.In b' ∧ s' = w.grow b' ∧ m'' = w.places.length - b'.length)) → C.nx δ') →
        (sThen (sSet 3 (nSh (xL oList (xsC (bVar 2) (xs0))))) (sThen (sSet 2 (nSh (xLc (sDct (x1 (oFldC 0 "known") (xVar 0)) dKeys) [4] (gN 4) (BP.tOr (tB (x2 oIn (bVar 4) (bVar 3))) (tB (xL F_can_stay (xsC (xVar 0) (xsC (xVar 4) (xsC (xVar 3) (xs0))))))) (xVar 4)))) (sNext))) C (St s b) := fun m' hm C hC => by
      refine ⟨.sh (eL s), rfl, .sh (eL (w.grow s)), ?_, hC _ ⟨w.places.length - s.length, hm, w.grow s, eL s, rfl, w.grow_in s, ⟨k + 1, ?_⟩, .inr ⟨s, rfl, hs, rfl, rfl⟩⟩⟩
      · have ev := lc_keys (a := x1 (oFldC 0 "known") (xVar 0)) (δ := St s (eL s)) (i := 4) (t := BP.tOr (tB (x2 oIn (bVar 4) (bVar 3))) (tB (xL F_can_stay (xsC (xVar 0) (xsC (xVar 4) (xsC (xVar 3) (xs0))))))) (b := fun p => p ∈ s || w.can p s) (l := w.spots) rfl (by simp [St]) fun p hp => by
          have hc := ex_can_stay w p s ok hp
          by_cases h : p ∈ s <;> simp [BP.tOr, tB, x2, xL, xsC, xs0, bVar, xVar, En.any, En.sh, En.put, En.wipe, St, in_L, h, hc]
        exact congrArg (Option.map Sl.sh) ev
      · rw [hk, times_add a k 1]; rfl
    rcases hb with ⟨rfl, rfl⟩ | ⟨b', rfl, hb', hs', rfl⟩
    · refine ⟨true, ?_, ?_⟩
      · simp [tB, x2, bVar, En.any, St, ne_L0 ns]
      · rw [if_pos rfl]
        exact turn 20 (by omega) _ fun δ' h => h
    · have nb : ∀ x ∈ b', nameOk x := fun x hx => ok.name x (hb'.mem x hx)
      by_cases hne : s = b'
      · refine ⟨false, ?_, ?_⟩
        · simp [tB, x2, bVar, En.any, St, ne_L nb nb, hne]
        · rw [if_neg Bool.false_ne_true]
          refine ⟨eL s, rfl, ?_⟩
          have fx : w.grow s = s := by rw [hne] at hs' ⊢; exact hs'.symm
          have := ok.grow7 ha hk fx
          show eL s = eL (w.brought a)
          unfold Wb.brought
          rw [ea, ← this]
      · refine ⟨true, ?_, ?_⟩
        · simp [tB, x2, bVar, En.any, St, ne_L ns nb, hne]
        · rw [if_pos rfl]
          have lt : b'.length < s.length := by
            rcases Wb.grow_le hb' with e | e
            · exact absurd (by rw [hs', e]) hne
            · rw [hs']; exact e
          have := hs.len
          exact turn _ (by omega) _ fun δ' h => h
  · simp only [List.cons.injEq, and_true] at e
    obtain ⟨e1, e2⟩ := e
    have S := same_obj e1
    have h := eL_inj e2
    rw [brought_same S]
    unfold Wb.brought
    rw [← h]
    congr 2
    rw [h]
    exact (w'.in_inT a')
theorem g_kk : oEq (.str "keep") (.str "keep") = some (.bl true) := by decide +kernel
theorem g_ck : oEq (.str "come") (.str "keep") = some (.bl false) := by decide +kernel
theorem g_ak : oEq (.str "again") (.str "keep") = some (.bl false) := by decide +kernel
theorem g_cc : oEq (.str "come") (.str "come") = some (.bl true) := by decide +kernel
theorem g_ac : oEq (.str "again") (.str "come") = some (.bl false) := by decide +kernel
theorem g_kc : oEq (.str "keep") (.str "come") = some (.bl false) := by decide +kernel
theorem s_ck : ¬ (("come" : Str) = "keep") := by decide +kernel
theorem s_ak : ¬ (("again" : Str) = "keep") := by decide +kernel
theorem s_ac : ¬ (("again" : Str) = "come") := by decide +kernel
theorem s_kc : ¬ (("keep" : Str) = "come") := by decide +kernel
theorem Wb.brought_in (w : Wb) (a : List Str) : w.In (w.brought a) := times_P (P := w.In) (fun s _ => w.grow_in s) 7 (w.in_inT a)
theorem Wb.brought_inT (w : Wb) (a : List Str) : w.brought (w.inT a) = w.brought a := by
  unfold Wb.brought
  rw [w.in_inT a]
/-- the part of 'keep' -/
theorem sighted_keep (w : Wb) (l : List Str) (ok : w.Ok) (C : K4) (hC : C.rt (eT (times w.kept 7 (w.places.filter (· ∉ l))))) : (sThen (sSet 3 (nSh (xLc (sDct (x1 (oFldC 0 "known") (xVar 0)) dKeys) [7] (gN 7) (tB (x2 oNotIn (bVar 7) (bVar 2))) (xVar 7)))) (sThen (sWhile (tB (x2 oNe (bVar 3) (xL F_kept_in (xsC (xVar 0) (xsC (xVar 3) (xs0)))))) (sThen (sSet 3 (nSh (xL F_kept_in (xsC (xVar 0) (xsC (xVar 3) (xs0)))))) (sNext))) (sThen (sRet (xL oTup1 (xsC (bVar 3) (xs0)))) (sNext))))
    C [some (.sh w.obj), some (.sh (.str "keep")), some (.sh (eL l)), none, none, none, none, none] := by
  let St : List Str → En := fun s => [some (.sh w.obj), some (.sh (.str "keep")), some (.sh (eL l)), some (.sh (eL s)), none, none, none, none]
  have s0 : w.In (w.places.filter (· ∉ l)) := w.in_filter _
  refine ⟨.sh (eL (w.places.filter (· ∉ l))), ?_, ?_⟩
  · have ev := lc_keys (a := x1 (oFldC 0 "known") (xVar 0)) (δ := [some (.sh w.obj), some (.sh (.str "keep")), some (.sh (eL l)), none, none, none, none, none]) (i := 7) (t := tB (x2 oNotIn (bVar 7) (bVar 2))) (b := fun p => decide (p ∉ l)) (l := w.spots) rfl (by simp) fun p hp => by simp [tB, x2, bVar, En.any, En.put, En.wipe, notIn_L]
    exact congrArg (Option.map Sl.sh) ev
  · show sThen (sWhile _ _) _ _ (St _)
    refine ⟨fun m δ => ∃ s, δ = St s ∧ w.In s ∧ (∃ k, s = times w.kept k (w.places.filter (· ∉ l))) ∧ m = s.length, ⟨_, _, rfl, s0, ⟨0, rfl⟩, rfl⟩, ?_⟩
    rintro m δ ⟨s, rfl, hs, ⟨k, hk⟩, rfl⟩
    have ns : ∀ x ∈ s, nameOk x := fun x hx => ok.name x (hs.mem x hx)
    have hs2 : w.In (w.kept s) := hs.filter _
    have nk : ∀ x ∈ w.kept s, nameOk x := fun x hx => ok.name x (hs2.mem x hx)
    have ek := ex_kept_in w s ok hs.mem
    by_cases hne : s = w.kept s
    · refine ⟨false, ?_, ?_⟩
      · simp only [tB, x2, bVar, xVar, En.any, En.sh, St, xL, xsC, xs0, List.getElem?_cons_succ, List.getElem?_cons_zero, Option.bind_some, ek, ne_L ns nk, decide_eq_true hne]
        rfl
      · rw [if_neg Bool.false_ne_true]
        refine ⟨eT s, rfl, ?_⟩
        show C.rt (eT s)
        rw [ok.kept7 s0 hk hne.symm]
        exact hC
    · refine ⟨true, ?_, ?_⟩
      · simp only [tB, x2, bVar, xVar, En.any, En.sh, St, xL, xsC, xs0, List.getElem?_cons_succ, List.getElem?_cons_zero, Option.bind_some, ek, ne_L ns nk, decide_eq_false hne]
        rfl
      · rw [if_pos rfl]
        refine ⟨.sh (eL (w.kept s)), ?_, ⟨(w.kept s).length, ?_, w.kept s, rfl, hs2, ⟨k + 1, by rw [hk, times_add _ k 1]; rfl⟩, rfl⟩⟩
        · simp only [nSh, xVar, En.sh, St, xL, xsC, xs0, List.getElem?_cons_succ, List.getElem?_cons_zero, Option.bind_some, ek]
          rfl
        · rcases filter_lt (fun p => w.can p s) s with e | e
          · exact absurd e.symm hne
          · exact e
/-- the part of 'come', 'again' -/
theorem sighted_rest (w : Wb) (goal : Str) (l : List Str) (ok : w.Ok) (cm : Bool) (hg : oEq (.str goal) (.str "come") = some (.bl cm)) (C : K4) (hC : C.rt (eT (if cm = true then w.brought l else w.brought (times w.again 7 (w.inT l))))) : (sThen (sSet 4 (nSh (xLc (sDct (x1 (oFldC 0 "known") (xVar 0)) dKeys) [7] (gN 7) (tB (x2 oIn (bVar 7) (bVar 2))) (xVar 7)))) (sThen (sWhile (tB (xC (.bl true))) (sThen (sSet 5 (nSh (xL F_brought_to (xsC (xVar 0) (xsC (xVar 4) (xs0)))))) (sThen (sSet 6 (nSh (xLc (sLst (xVar 4)) [7] (gN 7) (BP.tOr (tB (x2 oEq (bVar 1) (xC (.str "come")))) (tB (xL F_can_stay (xsC (xVar 0) (xsC (xVar 7) (xsC (xVar 5) (xs0))))))) (xVar 7)))) (sThen (sIf (tB (x2 oEq (bVar 6) (bVar 4))) (sThen (sRet (oMeth 0 "in_turn" F_in_turn (xVar 0) (xsC (xVar 5) (xs0)))) (sNext)) (sNext)) (sThen (sSet 4 (nSh (xVar 6))) (sNext)))))) (sNext)))
    C [some (.sh w.obj), some (.sh (.str goal)), some (.sh (eL l)), none, none, none, none, none] := by
  let St : List Str → Option Sl → Option Sl → En := fun a x y => [some (.sh w.obj), some (.sh (.str goal)), some (.sh (eL l)), none, some (.sh (eL a)), x, y, none]
  have s0 : w.In (w.inT l) := w.in_inT _
  refine ⟨.sh (eL (w.inT l)), ?_, ?_⟩
  · have ev := lc_keys (a := x1 (oFldC 0 "known") (xVar 0)) (δ := [some (.sh w.obj), some (.sh (.str goal)), some (.sh (eL l)), none, none, none, none, none]) (i := 7) (t := tB (x2 oIn (bVar 7) (bVar 2))) (b := fun p => decide (p ∈ l)) (l := w.spots) rfl (by simp) fun p hp => by simp [tB, x2, bVar, En.any, En.put, En.wipe, in_L]
    exact congrArg (Option.map Sl.sh) ev
  · show sThen (sWhile _ _) _ _ (St _ none none)
    refine ⟨fun m δ => ∃ a x y, δ = St a x y ∧ w.In a ∧ (cm = true → a = w.inT l) ∧ (∃ k, a = times w.again k (w.inT l)) ∧ m = a.length, ⟨_, _, none, none, rfl, s0, fun _ => rfl, ⟨0, rfl⟩, rfl⟩, ?_⟩
    rintro m δ ⟨a, x, y, rfl, ha, hcm, ⟨k, hk⟩, rfl⟩
    refine ⟨true, rfl, ?_⟩
    rw [if_pos rfl]
    have na : ∀ x ∈ a, nameOk x := fun x hx => ok.name x (ha.mem x hx)
    have eb := ex_brought_to w a ok ha
    refine ⟨.sh (eL (w.brought a)), ?_, ?_⟩
    · simp only [nSh, xVar, En.sh, St, xL, xsC, xs0, List.getElem?_cons_succ, List.getElem?_cons_zero, Option.bind_some, eb]
      rfl
    · show sThen (sSet 6 _) _ _ (St a (some (.sh (eL (w.brought a)))) y)
      have ev := lc_list (a := xVar 4) (δ := St a (some (.sh (eL (w.brought a)))) y) (i := 7) (t := BP.tOr (tB (x2 oEq (bVar 1) (xC (.str "come")))) (tB (xL F_can_stay (xsC (xVar 0) (xsC (xVar 7) (xsC (xVar 5) (xs0))))))) (b := fun p => cm || w.can p (w.brought a)) (l := a) rfl (by simp [St]) fun p hp => by
        have hc := ex_can_stay w p (w.brought a) ok (ha.mem p hp)
        cases cm <;> simp [BP.tOr, tB, x2, xL, xsC, xs0, xC, bVar, xVar, En.any, En.sh, En.put, En.wipe, St, hg, hc]
      have hla : w.In (a.filter fun p => cm || w.can p (w.brought a)) := ha.filter _
      have nl : ∀ x ∈ (a.filter fun p => cm || w.can p (w.brought a)), nameOk x := fun x hx => ok.name x (hla.mem x hx)
      refine ⟨.sh (eL (a.filter fun p => cm || w.can p (w.brought a))), congrArg (Option.map Sl.sh) ev, ?_⟩
      show sThen (sIf _ _ _) _ _ (St a (some (.sh (eL (w.brought a)))) (some (.sh (eL (a.filter fun p => cm || w.can p (w.brought a))))))
      generalize hla' : (a.filter fun p => cm || w.can p (w.brought a)) = la at *
      by_cases hne : la = a
      · refine ⟨true, ?_, ?_⟩
        · simp only [tB, x2, bVar, En.any, St, List.getElem?_cons_succ, List.getElem?_cons_zero, Option.bind_some, eq_L nl na, decide_eq_true hne]
        · rw [if_pos rfl]
          have ei := ex_in_turn w w.fields (w.brought a) rfl
          have eb2 : w.inT (w.brought a) = w.brought a := w.brought_in a
          rw [eb2] at ei
          refine ⟨eT (w.brought a), ?_, ?_⟩
          · simp only [oMeth, xVar, En.sh, St, xsC, xs0, List.getElem?_cons_succ, List.getElem?_cons_zero, Option.bind_some]
            exact ei
          · show C.rt (eT (w.brought a))
            cases cm with
            | true =>
              rw [if_pos rfl] at hC
              rw [hcm rfl, w.brought_inT]
              exact hC
            | false =>
              rw [if_neg Bool.false_ne_true] at hC
              have h9 : (a.filter fun p => w.can p (w.brought a)) = la := by simpa only [Bool.false_or] using hla'
              have fx : w.again a = a := h9.trans hne
              rw [ok.again7 s0 hk fx]
              exact hC
      · refine ⟨false, ?_, ?_⟩
        · simp only [tB, x2, bVar, En.any, St, List.getElem?_cons_succ, List.getElem?_cons_zero, Option.bind_some, eq_L nl na, decide_eq_false hne]
        · rw [if_neg Bool.false_ne_true]
          refine ⟨.sh (eL la), rfl, ⟨la.length, ?_, la, _, _, rfl, hla, fun hc => ?_, ⟨k + 1, ?_⟩, rfl⟩⟩
          · rw [← hla']
            rcases filter_lt (fun p => cm || w.can p (w.brought a)) a with e | e
            · exact absurd (hla'.symm.trans e) hne
            · exact e
          · subst hc
            exfalso
            apply hne
            rw [← hla']
            simp
          · rw [times_add _ k 1, ← hk]
            cases cm with
            | true => exact absurd (by rw [← hla']; simp) hne
            | false => rw [← hla']; simp only [Bool.false_or]; rfl
theorem ex_sighted (w : Wb) (goal : Str) (l : List Str) (ok : w.Ok) (nd : l.Nodup) (hs : ∀ x ∈ l, x ∈ w.places) (hg : goal ∈ (["keep", "come", "again"] : List Str)) : F_sighted [w.obj, .str goal, eL l] = some (eT (w.due goal l)) := by
  refine FT_is rfl ?_ (fun w' goal' l' e ok' nd' hs' hg' => ?_) (fun d' hd => hd w goal l rfl ok nd hs hg)
  · have e1 : startE 8 [w.obj, .str goal, eL l] = [some (.sh w.obj), some (.sh (.str goal)), some (.sh (eL l)), none, none, none, none, none] := rfl
    rw [e1]
    have hl : l.length ≤ 1000 := by
      have := nd.length_le_of_subset hs
      have := ok.p6
      omega
    have ec := ex_check_goal w goal l hg nd hs hl
    refine ⟨.non, ?_, ?_⟩
    · simp only [xVar, En.sh, xL, xsC, xs0, List.getElem?_cons_succ, List.getElem?_cons_zero, Option.bind_some, ec]
    · simp only [List.mem_cons, List.not_mem_nil, or_false] at hg
      rcases hg with rfl | rfl | rfl
      · refine ⟨true, ?_, ?_⟩
        · simp only [tB, x2, bVar, En.any, xC, List.getElem?_cons_succ, List.getElem?_cons_zero, Option.bind_some, g_kk]
        · rw [if_pos rfl]
          refine sighted_keep w l ok _ ?_
          show eT _ = eT _
          unfold Wb.due
          rw [if_neg s_kc, if_pos rfl]
      · refine ⟨false, ?_, ?_⟩
        · simp only [tB, x2, bVar, En.any, xC, List.getElem?_cons_succ, List.getElem?_cons_zero, Option.bind_some, g_ck]
        · rw [if_neg Bool.false_ne_true]
          refine sighted_rest w "come" l ok true g_cc _ ?_
          show eT _ = eT _
          unfold Wb.due
          rw [if_pos rfl, if_pos rfl]
      · refine ⟨false, ?_, ?_⟩
        · simp only [tB, x2, bVar, En.any, xC, List.getElem?_cons_succ, List.getElem?_cons_zero, Option.bind_some, g_ak]
        · rw [if_neg Bool.false_ne_true]
          refine sighted_rest w "again" l ok false g_ac _ ?_
          show eT _ = eT _
          unfold Wb.due
          rw [if_neg s_ac, if_neg s_ak, if_neg Bool.false_ne_true]
  · simp only [List.cons.injEq, D.str.injEq, and_true] at e
    obtain ⟨e1, rfl, e3⟩ := e
    rw [due_same (same_obj e1), eL_inj e3]
end BP
namespace BP
open PySem
theorem Wb.Ok.can_way {w : Wb} (ok : w.Ok) {p : Str} (hp : p ∈ w.places) (s : List Str) : (w.letters.any fun l => (w.way p l).all (· ∈ s)) = w.can p s := by
  unfold Wb.can
  refine Bool.eq_iff_iff.mpr ?_
  simp only [List.any_eq_true, List.all_eq_true, decide_eq_true_eq]
  constructor
  · rintro ⟨l, hl, h⟩
    exact ⟨l, hl, fun x hx => h x (by simpa using (List.mem_filter.mp hx).2)⟩
  · rintro ⟨l, hl, h⟩
    exact ⟨l, hl, fun x hx => h x (List.mem_filter.mpr ⟨(ok.wd p hp l hl).2.1 x hx, by simpa using hx⟩)⟩
theorem ex_law_can (w : Wb) (p : Str) (s : List Str) (ok : w.Ok) (hp : p ∈ w.places) : F__law_can [.tup w.parts, .str p, eL s] = some (.bl (w.can p s)) := by
  refine FT_is rfl ?_ (fun w' p' s' e ok' hp' => ?_) (fun d' hd => hd w p s rfl ok hp)
  · have e1 : startE 9 [.tup w.parts, .str p, eL s] = [some (.sh (.tup w.parts)), some (.sh (.str p)), some (.sh (eL s)), none, none, none, none, none, none] := rfl
    rw [e1]
    refine ⟨.tup w.parts, rfl, [some (.sh (.tup w.parts)), some (.sh (.str p)), some (.sh (eL s)), some (.sh (eL w.letters)), some (.sh (eK w.spots)), some (.sh (eL w.begins)), some (.sh (eW w.places w.letters fun p l => eL (w.way p l))), none, none], rfl, .bl (w.can p s), ?_, rfl⟩
    generalize hP : (D.tup w.parts) = PT
    have inner : ∀ l ∈ w.letters, xL oAll (xsC (xLc (sLst (x2 oSub2 (bVar 6) (xL oTup (xsC (xVar 1) (xsC (xVar 7) (xs0)))))) [8] (gN 8) (tTrue) (x2 oIn (bVar 8) (bVar 2))) (xs0)) [some (.sh PT), some (.sh (.str p)), some (.sh (eL s)), some (.sh (eL w.letters)), some (.sh (eK w.spots)), some (.sh (eL w.begins)), some (.sh (eW w.places w.letters fun p l => eL (w.way p l))), some (.sh (.str l)), none] = some (.bl ((w.way p l).all (· ∈ s))) := fun l hl => by
      have h1 : sLst (x2 oSub2 (bVar 6) (xL oTup (xsC (xVar 1) (xsC (xVar 7) (xs0))))) [some (.sh PT), some (.sh (.str p)), some (.sh (eL s)), some (.sh (eL w.letters)), some (.sh (eK w.spots)), some (.sh (eL w.begins)), some (.sh (eW w.places w.letters fun p l => eL (w.way p l))), some (.sh (.str l)), none] = some ((w.way p l).map .str) := by
        simp only [sLst, x2, x1, bVar, xVar, En.any, En.sh, List.getElem?_cons_succ, List.getElem?_cons_zero, xL, xsC, xs0, Option.bind_some, tup2, sub_W _ hp hl]
        rfl
      simp only [xL, xsC, xs0, Option.bind_some, xLc]
      rw [h1, Option.bind_some, cL_all D.str (fun x => D.bl (decide (x ∈ s))) _ fun x hx => ⟨_, rfl, by simp [x2, bVar, En.any, En.put, En.wipe, in_L]⟩]
      simp only [Option.map_some, Option.bind_some]
      rw [all_map]
    simp only [xL, xsC, xs0, Option.bind_some, xLc, sLst, xVar, En.sh, List.getElem?_cons_succ, List.getElem?_cons_zero]
    show ((Option.map D.lst (cL (gN 7) tTrue _ _ (w.letters.map D.str))).bind fun x => some [x]).bind oAny = _
    rw [cL_all D.str (fun l => D.bl ((w.way p l).all (· ∈ s))) _ fun l hl => ⟨_, rfl, inner l hl⟩]
    simp only [Option.map_some, Option.bind_some]
    rw [any_map, ok.can_way hp]
  · simp only [List.cons.injEq, D.str.injEq, D.tup.injEq, and_true] at e
    obtain ⟨e1, rfl, e3⟩ := e
    rw [can_same (same_parts e1) hp, eL_inj e3]
theorem ix_parts (w : Wb) : oIxT (.tup w.parts) (.int 1) = some (eK w.spots) := rfl
theorem ex_law_brought (w : Wb) (a : List Str) (ok : w.Ok) : F__law_brought [.tup w.parts, eL a] = some (eL (w.brought a)) := by
  refine FT_is rfl ?_ (fun w' a' e ok' => ?_) (fun d' hd => hd w a rfl ok)
  · let St : List Str → Option Sl → En := fun s t => [some (.sh (.tup w.parts)), some (.sh (eL a)), some (.sh (eL s)), t, none]
    have e1 : startE 5 [.tup w.parts, eL a] = [some (.sh (.tup w.parts)), some (.sh (eL a)), none, none, none] := rfl
    rw [e1]
    refine ⟨.sh (eL (w.inT a)), ?_, ?_⟩
    · have ev := lc_keys (a := x2 oIxT (xVar 0) (xC (.int 1))) (δ := [some (.sh (.tup w.parts)), some (.sh (eL a)), none, none, none]) (i := 4) (t := tB (x2 oIn (bVar 4) (bVar 1))) (b := fun p => decide (p ∈ a)) (l := w.spots) rfl (by simp) fun p hp => by simp [tB, x2, bVar, En.any, En.put, En.wipe, in_L]
      exact congrArg (Option.map Sl.sh) ev
    · show sThen (sFor _ _ _) _ _ (St (w.inT a) none)
      refine ⟨upTo 0 7, rfl, ?_⟩
      have loop : ∀ (C : K4) (ds : List D) (s : List Str) (t : Option Sl), (∀ t, C.nx (St (times w.grow ds.length s) t)) → sForL (gN 3) (sThen (sSet 2 (nSh (xLc (sDct (x2 oIxT (xVar 0) (xC (.int 1))) dKeys) [4] (gN 4) (BP.tOr (tB (x2 oIn (bVar 4) (bVar 2))) (tB (xL F__law_can (xsC (xVar 0) (xsC (xVar 4) (xsC (xVar 2) (xs0))))))) (xVar 4)))) (sNext)) C ds (St s t) := by
        intro C ds
        induction ds with
        | nil => intro s t h; exact h t
        | cons d r ih =>
          intro s t h
          refine ⟨St s (some (.sh d)), rfl, .sh (eL (w.grow s)), ?_, ih (w.grow s) (some (.sh d)) h⟩
          have ev := lc_keys (a := x2 oIxT (xVar 0) (xC (.int 1))) (δ := St s (some (.sh d))) (i := 4) (t := BP.tOr (tB (x2 oIn (bVar 4) (bVar 2))) (tB (xL F__law_can (xsC (xVar 0) (xsC (xVar 4) (xsC (xVar 2) (xs0))))))) (b := fun p => p ∈ s || w.can p s) (l := w.spots) rfl (by simp [St]) fun p hp => by
            have hc := ex_law_can w p s ok hp
            by_cases h : p ∈ s <;> simp [BP.tOr, tB, x2, xL, xsC, xs0, bVar, xVar, En.any, En.sh, En.put, En.wipe, St, in_L, h, hc]
          exact congrArg (Option.map Sl.sh) ev
      exact loop _ _ _ _ fun t => ⟨eL (w.brought a), rfl, rfl⟩
  · simp only [List.cons.injEq, D.tup.injEq, and_true] at e
    obtain ⟨e1, e2⟩ := e
    rw [brought_same (same_parts e1), eL_inj e2]
theorem due_keep (w : Wb) (l : List Str) (ok : w.Ok) (C : K4) (hC : C.rt (eL (times w.kept 7 (w.places.filter (· ∉ l))))) : (sThen (sSet 3 (nSh (xLc (sDct (x2 oIxT (xVar 0) (xC (.int 1))) dKeys) [6] (gN 6) (tB (x2 oNotIn (bVar 6) (bVar 2))) (xVar 6)))) (sThen (sFor (sRange1 (xsC (xC (.int 7)) (xs0))) (gN 4) (sThen (sSet 3 (nSh (xLc (sLst (xVar 3)) [6] (gN 6) (tB (xL F__law_can (xsC (xVar 0) (xsC (xVar 6) (xsC (xVar 3) (xs0)))))) (xVar 6)))) (sNext))) (sThen (sRet (xVar 3)) (sNext))))
    C [some (.sh (.tup w.parts)), some (.sh (.str "keep")), some (.sh (eL l)), none, none, none, none] := by
  let St : List Str → Option Sl → En := fun s t => [some (.sh (.tup w.parts)), some (.sh (.str "keep")), some (.sh (eL l)), some (.sh (eL s)), t, none, none]
  have s0 : w.In (w.places.filter (· ∉ l)) := w.in_filter _
  refine ⟨.sh (eL (w.places.filter (· ∉ l))), ?_, ?_⟩
  · have ev := lc_keys (a := x2 oIxT (xVar 0) (xC (.int 1))) (δ := [some (.sh (.tup w.parts)), some (.sh (.str "keep")), some (.sh (eL l)), none, none, none, none]) (i := 6) (t := tB (x2 oNotIn (bVar 6) (bVar 2))) (b := fun p => decide (p ∉ l)) (l := w.spots) rfl (by simp) fun p hp => by simp [tB, x2, bVar, En.any, En.put, En.wipe, notIn_L]
    exact congrArg (Option.map Sl.sh) ev
  · show sThen (sFor _ _ _) _ _ (St _ none)
    refine ⟨upTo 0 7, rfl, ?_⟩
    have loop : ∀ (C : K4) (ds : List D) (s : List Str) (t : Option Sl), w.In s → (∀ t, C.nx (St (times w.kept ds.length s) t)) → sForL (gN 4) (sThen (sSet 3 (nSh (xLc (sLst (xVar 3)) [6] (gN 6) (tB (xL F__law_can (xsC (xVar 0) (xsC (xVar 6) (xsC (xVar 3) (xs0)))))) (xVar 6)))) (sNext)) C ds (St s t) := by
      intro C ds
      induction ds with
      | nil => intro s t hs h; exact h t
      | cons d r ih =>
        intro s t hs h
        refine ⟨St s (some (.sh d)), rfl, .sh (eL (w.kept s)), ?_, ih (w.kept s) (some (.sh d)) (hs.filter _) h⟩
        have ev := lc_list (a := xVar 3) (δ := St s (some (.sh d))) (i := 6) (t := tB (xL F__law_can (xsC (xVar 0) (xsC (xVar 6) (xsC (xVar 3) (xs0)))))) (b := fun p => w.can p s) (l := s) rfl (by simp [St]) fun p hp => by
          have hc := ex_law_can w p s ok (hs.mem p hp)
          simp [tB, xL, xsC, xs0, xVar, En.sh, En.put, En.wipe, St, hc]
        exact congrArg (Option.map Sl.sh) ev
    exact loop _ _ _ _ s0 fun t => ⟨_, rfl, hC⟩
end BP
namespace BP
open PySem
theorem due_again (w : Wb) (l : List Str) (ok : w.Ok) (C : K4) (hC : C.rt (eL (w.brought (times w.again 7 (w.inT l))))) : (sThen (sSet 5 (nSh (xLc (sDct (x2 oIxT (xVar 0) (xC (.int 1))) dKeys) [6] (gN 6) (tB (x2 oIn (bVar 6) (bVar 2))) (xVar 6)))) (sThen (sFor (sRange1 (xsC (xC (.int 7)) (xs0))) (gN 4) (sThen (sSet 3 (nSh (xL F__law_brought (xsC (xVar 0) (xsC (xVar 5) (xs0)))))) (sThen (sSet 5 (nSh (xLc (sLst (xVar 5)) [6] (gN 6) (tB (xL F__law_can (xsC (xVar 0) (xsC (xVar 6) (xsC (xVar 3) (xs0)))))) (xVar 6)))) (sNext)))) (sThen (sRet (xL F__law_brought (xsC (xVar 0) (xsC (xVar 5) (xs0))))) (sNext))))
    C [some (.sh (.tup w.parts)), some (.sh (.str "again")), some (.sh (eL l)), none, none, none, none] := by
  let St : List Str → Option Sl → Option Sl → En := fun s x t => [some (.sh (.tup w.parts)), some (.sh (.str "again")), some (.sh (eL l)), x, t, some (.sh (eL s)), none]
  have s0 : w.In (w.inT l) := w.in_inT _
  refine ⟨.sh (eL (w.inT l)), ?_, ?_⟩
  · have ev := lc_keys (a := x2 oIxT (xVar 0) (xC (.int 1))) (δ := [some (.sh (.tup w.parts)), some (.sh (.str "again")), some (.sh (eL l)), none, none, none, none]) (i := 6) (t := tB (x2 oIn (bVar 6) (bVar 2))) (b := fun p => decide (p ∈ l)) (l := w.spots) rfl (by simp) fun p hp => by simp [tB, x2, bVar, En.any, En.put, En.wipe, in_L]
    exact congrArg (Option.map Sl.sh) ev
  · show sThen (sFor _ _ _) _ _ (St _ none none)
    refine ⟨upTo 0 7, rfl, ?_⟩
    have loop : ∀ (C : K4) (ds : List D) (s : List Str) (x t : Option Sl), w.In s → (∀ x t, C.nx (St (times w.again ds.length s) x t)) → sForL (gN 4) (sThen (sSet 3 (nSh (xL F__law_brought (xsC (xVar 0) (xsC (xVar 5) (xs0)))))) (sThen (sSet 5 (nSh (xLc (sLst (xVar 5)) [6] (gN 6) (tB (xL F__law_can (xsC (xVar 0) (xsC (xVar 6) (xsC (xVar 3) (xs0)))))) (xVar 6)))) (sNext))) C ds (St s x t) := by
      intro C ds
      induction ds with
      | nil => intro s x t hs h; exact h x t
      | cons d r ih =>
        intro s x t hs h
        have eb := ex_law_brought w s ok
        refine ⟨St s x (some (.sh d)), rfl, .sh (eL (w.brought s)), ?_, .sh (eL (w.again s)), ?_, ih (w.again s) (some (.sh (eL (w.brought s)))) (some (.sh d)) (hs.filter _) h⟩
        · simp only [nSh, xVar, En.sh, St, xL, xsC, xs0, List.getElem?_cons_succ, List.getElem?_cons_zero, Option.bind_some, eb]
          rfl
        · have ev := lc_list (a := xVar 5) (δ := St s (some (.sh (eL (w.brought s)))) (some (.sh d))) (i := 6) (t := tB (xL F__law_can (xsC (xVar 0) (xsC (xVar 6) (xsC (xVar 3) (xs0)))))) (b := fun p => w.can p (w.brought s)) (l := s) rfl (by simp [St]) fun p hp => by
            have hc := ex_law_can w p (w.brought s) ok (hs.mem p hp)
            simp [tB, xL, xsC, xs0, xVar, En.sh, En.put, En.wipe, St, hc]
          exact congrArg (Option.map Sl.sh) ev
    refine loop _ _ _ _ _ s0 fun x t => ⟨_, ?_, hC⟩
    have eb := ex_law_brought w (times w.again 7 (w.inT l)) ok
    exact eb
theorem ex_law_due (w : Wb) (goal : Str) (l : List Str) (ok : w.Ok) (hg : goal ∈ (["keep", "come", "again"] : List Str)) : F__law_due [.tup w.parts, .str goal, eL l] = some (eL (w.due goal l)) := by
  refine FT_is rfl ?_ (fun w' goal' l' e ok' => ?_) (fun d' hd => hd w goal l rfl ok)
  · have e1 : startE 7 [.tup w.parts, .str goal, eL l] = [some (.sh (.tup w.parts)), some (.sh (.str goal)), some (.sh (eL l)), none, none, none, none] := rfl
    rw [e1]
    simp only [List.mem_cons, List.not_mem_nil, or_false] at hg
    rcases hg with rfl | rfl | rfl
    · refine ⟨false, ?_, ?_⟩
      · simp only [tB, x2, bVar, En.any, xC, List.getElem?_cons_succ, List.getElem?_cons_zero, Option.bind_some, g_kc]
      · rw [if_neg Bool.false_ne_true]
        refine ⟨true, ?_, ?_⟩
        · simp only [tB, x2, bVar, En.any, xC, List.getElem?_cons_succ, List.getElem?_cons_zero, Option.bind_some, g_kk]
        · rw [if_pos rfl]
          refine due_keep w l ok _ ?_
          show eL _ = eL _
          unfold Wb.due
          rw [if_neg s_kc, if_pos rfl]
    · refine ⟨true, ?_, ?_⟩
      · simp only [tB, x2, bVar, En.any, xC, List.getElem?_cons_succ, List.getElem?_cons_zero, Option.bind_some, g_cc]
      · rw [if_pos rfl]
        have eb := ex_law_brought w l ok
        refine ⟨eL (w.brought l), eb, ?_⟩
        show eL _ = eL _
        unfold Wb.due
        rw [if_pos rfl]
    · refine ⟨false, ?_, ?_⟩
      · simp only [tB, x2, bVar, En.any, xC, List.getElem?_cons_succ, List.getElem?_cons_zero, Option.bind_some, g_ac]
      · rw [if_neg Bool.false_ne_true]
        refine ⟨false, ?_, ?_⟩
        · simp only [tB, x2, bVar, En.any, xC, List.getElem?_cons_succ, List.getElem?_cons_zero, Option.bind_some, g_ak]
        · rw [if_neg Bool.false_ne_true]
          refine due_again w l ok _ ?_
          show eL _ = eL _
          unfold Wb.due
          rw [if_neg s_ac, if_neg s_ak]
  · simp only [List.cons.injEq, D.str.injEq, D.tup.injEq, and_true] at e
    obtain ⟨e1, rfl, e3⟩ := e
    rw [due_same (same_parts e1), eL_inj e3]
end BP
namespace BP
open PySem
theorem mul_r (a b : Int) (h : -(2 ^ 64) < b ∧ b < 2 ^ 64) : oMul (.int a) (.int b) = some (.int (a * b)) := by
  simp only [oMul]
  rw [if_pos (.inr h)]
theorem mul_l (a b : Int) (h : -(2 ^ 64) < a ∧ a < 2 ^ 64) : oMul (.int a) (.int b) = some (.int (a * b)) := by
  simp only [oMul]
  rw [if_pos (.inl h)]
theorem plus_i (a b : Int) : oPlus (.int a) (.int b) = some (.int (a + b)) := rfl
theorem sub_i (a b : Int) : oSub (.int a) (.int b) = some (.int (a - b)) := rfl
theorem mod_i (a b : Int) (h : 0 < b) : oMod (.int a) (.int b) = some (.int (a % b)) := by
  simp only [oMod]
  rw [if_pos h]
theorem div_i (a b : Int) (h : 0 < b ∧ b < 1073741824) : oDiv (.int a) (.int b) = some (.int (a / b)) := by
  simp only [oDiv]
  rw [if_pos h]
theorem lt_i (a b : Int) : oLt (.int a) (.int b) = some (.bl (decide (a < b))) := rfl
theorem ge_i (a b : Int) : oGe (.int a) (.int b) = some (.bl (decide (b ≤ a))) := rfl
theorem abs_i (a : Int) : oAbs1 [.int a] = some (.int (if a < 0 then -a else a)) := rfl
theorem len_I (l : List Int) : oLen [eI l] = some (.int l.length) := by simp [oLen, eI]
theorem ix_seq (l : List D) (c : Int) (h0 : 0 ≤ c) (h1 : c < l.length) : ∃ d ∈ l, oSub2 (.tup l) (.int c) = some d ∧ oSub2 (.lst l) (.int c) = some d := by
  have hk : c.toNat < l.length := by omega
  refine ⟨l[c.toNat], List.getElem_mem hk, ?_, ?_⟩ <;>
  · simp only [oSub2, oIx, nix, if_pos h0, if_pos h1, Option.bind_some]
    simp [hk]
theorem sub_I (l : List Int) (c : Int) (h0 : 0 ≤ c) (h1 : c < l.length) : ∃ v ∈ l, oSub2 (eI l) (.int c) = some (.int v) := by
  obtain ⟨d, hd, _, h2⟩ := ix_seq (l.map .int) c h0 (by simpa using h1)
  obtain ⟨v, hv, rfl⟩ := List.mem_map.mp hd
  exact ⟨v, hv, h2⟩
theorem sub_L (l : List Str) (c : Int) (h0 : 0 ≤ c) (h1 : c < l.length) : ∃ v ∈ l, oSub2 (eL l) (.int c) = some (.str v) := by
  obtain ⟨d, hd, _, h2⟩ := ix_seq (l.map .str) c h0 (by simpa using h1)
  obtain ⟨v, hv, rfl⟩ := List.mem_map.mp hd
  exact ⟨v, hv, h2⟩
theorem sum_I (l : List Int) : oSum [eI l] = some (.int l.sum) := by
  have : ∀ l : List Int, intsOf (l.map .int) = some l := fun l => by
    induction l with
    | nil => rfl
    | cons a r ih => simp [intsOf, ih]
  simp [oSum, eI, this]
def primes : List Int := [1000003, 1000033, 1000037, 1000039, 1000081, 1000099, 1000117, 1000121, 1000133, 1000151, 1000159, 1000171, 1000183, 1000187, 1000193, 1000199]
theorem primes_pos : ∀ p ∈ primes, 0 < p := by decide
theorem ex_law_draw (a k m : Int) (hm : 0 < m) : ∃ i, F__law_draw [.int a, .int k, .int m] = some (.int i) ∧ 0 ≤ i := by
  obtain ⟨d, hd, ht⟩ := ix_seq (primes.map .int) (k % 16) (Int.emod_nonneg _ (by decide)) (by
    have := Int.emod_lt_of_pos k (show (0 : Int) < 16 by decide)
    simpa [primes] using this)
  obtain ⟨p, hp, rfl⟩ := List.mem_map.mp hd
  have pp := primes_pos p hp
  have e1 : startE 4 [.int a, .int k, .int m] = [some (.sh (.int a)), some (.sh (.int k)), some (.sh (.int m)), none] := rfl
  have ex : ∃ d, ([D.int a, .int k, .int m].length = 3 ∧ T__law_draw (k4 d) (startE 4 [.int a, .int k, .int m])) ∧ G__law_draw [.int a, .int k, .int m] d := by
    refine ⟨.int ((a * 48271 + k * 69621) % p % m), ⟨rfl, ?_⟩, _, rfl, Int.emod_nonneg _ (by omega)⟩
    rw [e1]
    refine ⟨.sh (.tup (primes.map .int)), ?_, _, ?_, rfl⟩
    · simp only [nSh, xL, xsC, xs0, xC, Option.bind_some, oTup]
      rw [if_pos (most_ge (by decide))]
      rfl
    · simp only [x2, bVar, xC, En.put, En.any, List.set_cons_succ, List.set_cons_zero, List.getElem?_cons_succ, List.getElem?_cons_zero, Option.bind_some, mul_r _ 48271 (by decide), mul_r _ 69621 (by decide), plus_i, mod_i _ 16 (by decide), ht.1, mod_i _ _ pp, mod_i _ _ hm]
  obtain ⟨d, h1, i, rfl, h2⟩ := FT_ex ex
  exact ⟨i, h1, h2⟩
theorem ex_law_cell_at (sc : List Int) (k : Int) (h0 : 0 ≤ k) : ∃ i, F__law_cell_at [eI sc, .int k] = some (.int i) ∧ 0 ≤ i := by
  have e1 : startE 2 [eI sc, .int k] = [some (.sh (eI sc)), some (.sh (.int k))] := rfl
  have ex : ∃ d, ([eI sc, .int k].length = 2 ∧ T__law_cell_at (k4 d) (startE 2 [eI sc, .int k])) ∧ G__law_cell_at [eI sc, .int k] d := by
    rw [e1]
    by_cases hk : k < sc.length
    · obtain ⟨v, _, hv⟩ := sub_I sc k h0 hk
      refine ⟨.int (if v < 0 then -v else v), ⟨rfl, true, ?_, ?_⟩, _, rfl, by split <;> omega⟩
      · simp only [tB, x2, bVar, En.any, xL, xsC, xs0, List.getElem?_cons_succ, List.getElem?_cons_zero, Option.bind_some, len_I, lt_i, decide_eq_true hk]
      · rw [if_pos rfl]
        refine ⟨_, ?_, rfl⟩
        simp only [x2, bVar, xVar, En.any, En.sh, xL, xsC, xs0, List.getElem?_cons_succ, List.getElem?_cons_zero, Option.bind_some, hv, abs_i]
    · obtain ⟨i, h1, h2⟩ := ex_law_draw ((if sc.sum < 0 then -sc.sum else sc.sum) + 7919 * k) k 999983 (by decide)
      refine ⟨.int i, ⟨rfl, false, ?_, ?_⟩, _, rfl, h2⟩
      · simp only [tB, x2, bVar, En.any, xL, xsC, xs0, List.getElem?_cons_succ, List.getElem?_cons_zero, Option.bind_some, len_I, lt_i, decide_eq_false hk]
      · rw [if_neg Bool.false_ne_true]
        refine ⟨_, ?_, rfl⟩
        simp only [x2, bVar, xVar, En.any, En.sh, xL, xsC, xs0, xC, List.getElem?_cons_succ, List.getElem?_cons_zero, Option.bind_some, sum_I, abs_i, mul_l 7919 _ (by decide), plus_i, h1]
  obtain ⟨d, h1, i, rfl, h2⟩ := FT_ex ex
  exact ⟨i, h1, h2⟩
theorem pow18 : oPow (.int 10) (.int 18) = some (.int 1000000000000000000) := by decide +kernel
def digT : Tt := (sIf (tB (x2 oGe (bVar 4) (x2 oPow (xC (.int 10)) (xC (.int 18))))) (sThen (sApp 5 (x2 oMod (bVar 6) (bVar 3))) (sThen (sSet 6 (nSh (x2 oDiv (bVar 6) (bVar 3)))) (sNext))) (sThen (sSet 8 (nSh (xL F__law_draw (xsC (x2 oMul (x2 oPlus (xVar 4) (x2 oMul (xC (.int 977)) (bVar 7))) (x2 oPlus (x2 oPlus (xVar 4) (x2 oMul (xC (.int 31)) (bVar 7))) (xC (.int 5)))) (xsC (x2 oPlus (x2 oMod (bVar 7) (xC (.int 9))) (xC (.int 1))) (xsC (xC (.int 999983)) (xs0))))))) (sThen (sSet 9 (nSh (xL F__law_draw (xsC (x2 oPlus (x2 oMul (x2 oPlus (xVar 4) (x2 oMul (xC (.int 31)) (bVar 7))) (x2 oPlus (xVar 4) (xC (.int 7)))) (x2 oMul (xC (.int 977)) (bVar 7))) (xsC (x2 oPlus (x2 oMod (bVar 7) (xC (.int 7))) (xC (.int 2))) (xsC (xC (.int 1000003)) (xs0))))))) (sThen (sApp 5 (x2 oMod (x2 oPlus (x2 oMul (bVar 8) (xC (.int 1000003))) (xVar 9)) (bVar 3))) (sNext)))))
theorem ex_law_digits (sc : List Int) (k : Int) (many : Nat) (base : Int) (h0 : 0 ≤ k) (hm : many ≤ 1000) (hb : 0 < base ∧ base < 1073741824) : ∃ l : List Int, F__law_digits [eI sc, .int k, .int many, .int base] = some (eI l) ∧ l.length = many := by
  obtain ⟨cell, hc, c0⟩ := ex_law_cell_at sc k h0
  have e1 : startE 10 [eI sc, .int k, .int many, .int base] = [some (.sh (eI sc)), some (.sh (.int k)), some (.sh (.int many)), some (.sh (.int base)), none, none, none, none, none, none] := rfl
  let St : List Int → Int → Option Sl → Option Sl → Option Sl → En := fun acc left x y z => [some (.sh (eI sc)), some (.sh (.int k)), some (.sh (.int many)), some (.sh (.int base)), some (.sh (.int cell)), some (.ol (acc.map .int)), some (.sh (.int left)), x, y, z]
  -- one turn gives one number
  have turn : ∀ (acc : List Int) (left : Int) (t : Int) (y z : Option Sl), 0 ≤ t → t ≤ 1000 → acc.length ≤ 1000 → ∃ v left' y' z', ∀ C : K4, C.nx (St (acc ++ [v]) left' (some (.sh (.int t))) y' z') → digT C (St acc left (some (.sh (.int t))) y z) := by
    intro acc left t y z t0 t1 hl
    have la : (acc.map D.int).length < most := by
      have : acc.length < most := by unfold most; omega
      simpa using this
    have ea : ∀ v : Int, (acc ++ [v]).map D.int = acc.map D.int ++ [D.int v] := fun v => by simp
    by_cases hbg : (1000000000000000000 : Int) ≤ cell
    · refine ⟨left % base, left / base, y, z, fun C h => ⟨true, ?_, ?_⟩⟩
      · simp only [tB, x2, bVar, En.any, xC, St, List.getElem?_cons_succ, List.getElem?_cons_zero, Option.bind_some, pow18, ge_i, decide_eq_true hbg]
      · rw [if_pos rfl]
        refine ⟨acc.map .int, .int (left % base), rfl, ?_, la, ?_⟩
        · simp only [x2, bVar, En.any, St, List.getElem?_cons_succ, List.getElem?_cons_zero, Option.bind_some, mod_i _ _ hb.1]
        · refine ⟨.sh (.int (left / base)), ?_, ?_⟩
          · simp only [nSh, x2, bVar, En.any, En.put, St, List.set_cons_succ, List.set_cons_zero, List.getElem?_cons_succ, List.getElem?_cons_zero, Option.bind_some, div_i _ _ hb]
            rfl
          · have h' := h
            simp only [St, ea] at h'
            exact h'
    · obtain ⟨i, h1, _⟩ := ex_law_draw ((cell + 977 * t) * (cell + 31 * t + 5)) (t % 9 + 1) 999983 (by decide)
      obtain ⟨j, h2, _⟩ := ex_law_draw ((cell + 31 * t) * (cell + 7) + 977 * t) (t % 7 + 2) 1000003 (by decide)
      refine ⟨(i * 1000003 + j) % base, left, some (.sh (.int i)), some (.sh (.int j)), fun C h => ⟨false, ?_, ?_⟩⟩
      · simp only [tB, x2, bVar, En.any, xC, St, List.getElem?_cons_succ, List.getElem?_cons_zero, Option.bind_some, pow18, ge_i, decide_eq_false hbg]
      · rw [if_neg Bool.false_ne_true]
        refine ⟨.sh (.int i), ?_, .sh (.int j), ?_, acc.map .int, .int ((i * 1000003 + j) % base), rfl, ?_, la, ?_⟩
        · simp only [nSh, x2, xL, xsC, xs0, xC, bVar, xVar, En.any, En.sh, St, List.getElem?_cons_succ, List.getElem?_cons_zero, Option.bind_some, plus_i, mul_l 977 _ (by decide), mul_l 31 _ (by decide), mul_l (cell + 977 * t) _ (by omega), mod_i _ 9 (by decide), h1]
          rfl
        · simp only [nSh, x2, xL, xsC, xs0, xC, bVar, xVar, En.any, En.sh, En.put, St, List.set_cons_succ, List.set_cons_zero, List.getElem?_cons_succ, List.getElem?_cons_zero, Option.bind_some, plus_i, mul_l 977 _ (by decide), mul_l 31 _ (by decide), mul_l (cell + 31 * t) _ (by omega), mod_i _ 7 (by decide), h2]
          rfl
        · simp only [x2, xC, bVar, xVar, En.any, En.sh, En.put, St, List.set_cons_succ, List.set_cons_zero, List.getElem?_cons_succ, List.getElem?_cons_zero, Option.bind_some, plus_i, mul_r _ 1000003 (by decide), mod_i _ _ hb.1]
        · have h' := h
          simp only [St, ea] at h'
          exact h'
  have loop : ∀ (n : Nat) (t0 : Int) (acc : List Int) (left : Int) (x y z : Option Sl), 0 ≤ t0 → t0 + n ≤ 1000 → acc.length + n ≤ 1000 → ∃ more : List Int, more.length = n ∧ ∀ C : K4, (∀ left x y z, C.nx (St (acc ++ more) left x y z)) → sForL (gN 7) digT C (upTo t0 n) (St acc left x y z) := by
    intro n
    induction n with
    | zero => intro t0 acc left x y z _ _ _; exact ⟨[], rfl, fun C h => by
        have := h left x y z
        rw [List.append_nil] at this
        exact this⟩
    | succ n ih =>
      intro t0 acc left x y z h0 h1 h2
      obtain ⟨v, left', y', z', hv⟩ := turn acc left t0 y z h0 (by omega) (by omega)
      obtain ⟨more, hl, hm⟩ := ih (t0 + 1) (acc ++ [v]) left' (some (.sh (.int t0))) y' z' (by omega) (by omega) (by simp; omega)
      refine ⟨v :: more, by simp [hl], fun C h => ⟨St acc left (some (.sh (.int t0))) y z, rfl, hv _ (hm C ?_)⟩⟩
      intro left x y z
      have := h left x y z
      simpa using this
  obtain ⟨more, hl, hmore⟩ := loop many 0 [] (cell - 1000000000000000000) none none none (by omega) (by omega) (by simp; omega)
  have ex : ∃ d, ([eI sc, .int k, .int many, .int base].length = 4 ∧ T__law_digits (k4 d) (startE 10 [eI sc, .int k, .int many, .int base])) ∧ G__law_digits [eI sc, .int k, .int many, .int base] d := by
    rw [e1]
    refine ⟨eI more, ⟨rfl, .sh (.int cell), .ol [], ?_, ?_⟩, fun sc' at' many' base' e => ⟨more, rfl, ?_⟩⟩
    · simp only [nsC, nSh, nL0, ns0, xL, xsC, xs0, xVar, En.sh, List.getElem?_cons_succ, List.getElem?_cons_zero, Option.bind_some, hc]
      rfl
    · refine ⟨.sh (.int (cell - 1000000000000000000)), ?_, upTo 0 many, ?_, hmore _ fun left x y z => ⟨eI more, ?_, eI more, rfl, rfl⟩⟩
      · simp only [nSh, x2, xC, bVar, En.any, En.put, List.set_cons_succ, List.set_cons_zero, List.getElem?_cons_succ, List.getElem?_cons_zero, Option.bind_some, pow18, sub_i]
        rfl
      · simp only [sRange1, xsC, xs0, xVar, En.sh, En.put, List.set_cons_succ, List.set_cons_zero, List.getElem?_cons_succ, List.getElem?_cons_zero, Option.bind_some]
        rw [if_pos ⟨by omega, by omega⟩]
        simp
      · simp [En.any, St, eI]
    · simp only [List.cons.injEq, D.int.injEq, and_true] at e
      omega
  obtain ⟨d, h1, h2⟩ := FT_ex ex
  obtain ⟨l, rfl, h3⟩ := h2 sc k many base rfl
  exact ⟨l, h1, h3⟩
end BP
namespace BP
open PySem
theorem cL_enum {g : Gx} {p : Tx} {f : Ex} {δ : En} (P : Str → D → Prop) : ∀ (names : List Str) (k : Nat), (∀ (n : Nat) x, n < k + names.length → x ∈ names → ∃ δ' b, g (.tup [.int n, .str x]) δ = some δ' ∧ p δ' = some b ∧ (b = true → ∃ y, f δ' = some y ∧ P x y)) →
    ∃ zs : List (Str × D), (zs.map (·.1)).Sublist names ∧ cL g p f δ (enumFrom k (names.map .str)) = some (zs.map (·.2)) ∧ (∀ z ∈ zs, P z.1 z.2) ∧ (p = tTrue → zs.map (·.1) = names)
  | [], k, h => ⟨[], List.Sublist.refl _, rfl, by simp, fun _ => rfl⟩
  | x :: r, k, h => by
    obtain ⟨δ', b, h1, h2, h3⟩ := h k x (by simp) (by simp)
    obtain ⟨zs, s1, s2, s3, s4⟩ := cL_enum P r (k + 1) fun n y hn hy => h n y (by simp; omega) (by simp [hy])
    simp only [List.map_cons, enumFrom, cL, h1, Option.bind_some, h2]
    cases b with
    | true =>
      obtain ⟨y, h4, h5⟩ := h3 rfl
      refine ⟨(x, y) :: zs, by simpa using s1, ?_, ?_, fun hp => by simp [s4 hp]⟩
      · simp only [if_pos, h4, Option.bind_some, s2, List.map_cons]
      · intro z hz
        rcases List.mem_cons.mp hz with rfl | hz
        · exact h5
        · exact s3 z hz
    | false =>
      refine ⟨zs, List.Sublist.cons _ s1, ?_, s3, fun hp => ?_⟩
      · simp only [Bool.false_eq_true, if_false, s2]
      · rw [hp] at h2
        simp [tTrue] at h2
theorem strs_of {zs : List (Str × D)} (h : ∀ z ∈ zs, z.2 = .str z.1) : zs.map (·.2) = (zs.map (·.1)).map D.str := by
  induction zs with
  | nil => rfl
  | cons z r ih =>
    simp only [List.map_cons]
    rw [h z (by simp), ih fun y hy => h y (by simp [hy])]
theorem enumA (δ : En) (a : Ex) (l : List Str) (h : a δ = some (eL l)) : sEnumA (xsC a xs0) δ = some (enumFrom 0 (l.map .str)) := by
  simp only [sEnumA, xsC, xs0, h, Option.bind_some, eL]
/-- [x for i, x in enumerate(names) if ..] -/
theorem lc_enum {a : Ex} {δ : En} {names : List Str} {i j : Nat} {t : Tx} (h : a δ = some (eL names)) (hi : i < δ.length) (hj : j < δ.length) (hij : i ≠ j) (ht : ∀ (n : Nat) x, n < names.length → x ∈ names → ∃ b, t (((δ.wipe [i, j]).put i (.sh (.int n))).put j (.sh (.str x))) = some b) :
    ∃ l : List Str, l.Sublist names ∧ xLc (sEnumA (xsC a xs0)) [i, j] (gT (gsC (gN i) (gsC (gN j) (gs0)))) t (xVar j) δ = some (eL l) := by
  obtain ⟨zs, s1, s2, s3, _⟩ := cL_enum (g := gT (gsC (gN i) (gsC (gN j) (gs0)))) (p := t) (f := xVar j) (δ := δ.wipe [i, j]) (fun x y => y = .str x) names 0 fun n x hn hx => by
    obtain ⟨b, hb⟩ := ht n x (by omega) hx
    exact ⟨_, b, rfl, hb, fun _ => ⟨.str x, by simp [xVar, En.sh, En.put, En.wipe, hj], rfl⟩⟩
  refine ⟨zs.map (·.1), s1, ?_⟩
  unfold xLc
  rw [enumA δ a names h, Option.bind_some, s2, Option.map_some, strs_of s3]
  rfl
theorem eq_i (a b : Int) : oEq (.int a) (.int b) = some (.bl (decide (a = b))) := by simp [oEq, plainD]
theorem ne_i (a b : Int) : oNe (.int a) (.int b) = some (.bl (!decide (a = b))) := by simp [oNe, plainD]
theorem shr_n (a : Int) (n : Nat) : oShr (.int a) (.int n) = some (.int (a / 2 ^ n)) := by
  simp only [oShr]
  rw [if_pos (by omega)]
  simp
theorem band_i (a b : Int) : oBand (.int a) (.int b) = some (.int (Builtin.bitAnd a b)) := rfl
theorem clip_some (n d : Nat) (i : Int) (h : 0 ≤ i) : clip n d (some i) = min i.toNat n := by
  simp only [clip]
  rw [if_neg (by omega)]
theorem cut_hi (l : List Str) (i : Int) (h : 0 ≤ i) : cut (l.map .str) none (some i) = (l.take i.toNat).map .str := by
  unfold cut
  rw [clip_some _ _ _ h]
  simp only [clip, List.length_map, List.drop_zero, Nat.sub_zero]
  rw [← List.map_take]
  congr 1
  by_cases hl : i.toNat ≤ l.length
  · rw [Nat.min_eq_left hl]
  · rw [Nat.min_eq_right (by omega), List.take_of_length_le (by omega), List.take_of_length_le (by omega)]
theorem cut_lo (l : List Str) (i : Int) (h : 0 ≤ i) : cut (l.map .str) (some i) none = (l.drop i.toNat).map .str := by
  unfold cut
  rw [clip_some _ _ _ h]
  simp only [clip, List.length_map]
  rw [← List.map_drop, ← List.map_take]
  congr 1
  by_cases hl : i.toNat ≤ l.length
  · rw [Nat.min_eq_left hl, List.take_of_length_le (by simp)]
  · rw [Nat.min_eq_right (by omega)]
    simp [List.drop_of_length_le (Nat.le_of_lt (Nat.lt_of_not_le hl))]
theorem xcut_hi {a : Ex} {b : Ex} {δ : En} {l : List Str} {i : Int} (h : a δ = some (eL l)) (hb : b δ = some (.int i)) (h0 : 0 ≤ i) : xCut a po0 (po1 b) δ = some (eL (l.take i.toNat)) := by
  simp only [xCut, po0, po1, h, hb, Option.bind_some, eL, cut_hi l i h0]
theorem xcut_lo {a : Ex} {b : Ex} {δ : En} {l : List Str} {i : Int} (h : a δ = some (eL l)) (hb : b δ = some (.int i)) (h0 : 0 ≤ i) : xCut a (po1 b) po0 δ = some (eL (l.drop i.toNat)) := by
  simp only [xCut, po0, po1, h, hb, Option.bind_some, eL, cut_lo l i h0]
theorem rev_L (l : List Str) : oRev (eL l) = some (eL l.reverse) := by simp [oRev, eL]
theorem cat_L (a b : List Str) (h : a.length + b.length ≤ most) : oPlus (eL a) (eL b) = some (eL (a ++ b)) := by
  simp only [oPlus, oCat, eL]
  rw [if_pos (by simpa using h)]
  simp
theorem goals3 : (xL oTup (xsC (xC (.str "keep")) (xsC (xC (.str "come")) (xsC (xC (.str "again")) (xs0))))) = fun _ => some (.tup ((["keep", "come", "again"] : List Str).map .str)) := by
  funext δ
  simp only [xL, xsC, xs0, xC, Option.bind_some, oTup]
  rw [if_pos (most_ge (by decide))]
  rfl
theorem ex_law_goal (names : List Str) (a b : Int) : ∃ g l, F__law_goal [.lst [.int a, .int b], eL names] = some (.tup [.str g, eL l]) ∧ l.Sublist names := by
  have e1 : startE 5 [.lst [.int a, .int b], eL names] = [some (.sh (.lst [.int a, .int b])), some (.sh (eL names)), none, none, none] := rfl
  have i0 : oSub2 (.lst [.int a, .int b]) (.int 0) = some (.int a) := rfl
  have i1 : oSub2 (.lst [.int a, .int b]) (.int 1) = some (.int b) := rfl
  obtain ⟨l, hl, ev⟩ := lc_enum (a := xVar 1) (δ := [some (.sh (.lst [.int a, .int b])), some (.sh (eL names)), none, none, none]) (names := names) (i := 3) (j := 4) (t := tB (x2 oEq (x2 oBand (x2 oShr (x2 oSub2 (bVar 0) (xC (.int 1))) (bVar 3)) (xC (.int 3))) (xC (.int 0)))) rfl (by simp) (by simp) (by decide) fun n x hn hx => by
    simp only [tB, x2, xC, bVar, En.any, En.put, En.wipe, List.set_cons_succ, List.set_cons_zero, List.getElem?_cons_succ, List.getElem?_cons_zero, Option.bind_some, i1, shr_n, band_i, eq_i]
    exact ⟨_, rfl⟩
  obtain ⟨d, hd, ht, _⟩ := ix_seq ((["keep", "come", "again"] : List Str).map .str) (a % 3) (Int.emod_nonneg _ (by decide)) (by
    have := Int.emod_lt_of_pos a (show (0 : Int) < 3 by decide)
    simpa using this)
  obtain ⟨g, hg, rfl⟩ := List.mem_map.mp hd
  have ex : ∃ d, ([D.lst [.int a, .int b], eL names].length = 2 ∧ T__law_goal (k4 d) (startE 5 [.lst [.int a, .int b], eL names])) ∧ G__law_goal [.lst [.int a, .int b], eL names] d := by
    rw [e1]
    refine ⟨.tup [.str g, eL l], ⟨rfl, .sh (eL l), congrArg (Option.map Sl.sh) ev, _, ?_, rfl⟩, fun names' a' b' e => ⟨g, l, rfl, ?_⟩⟩
    · rw [goals3]
      simp only [x2, xL, xsC, xs0, xC, bVar, xVar, En.any, En.sh, En.put, List.set_cons_succ, List.set_cons_zero, List.getElem?_cons_succ, List.getElem?_cons_zero, Option.bind_some, i0, mod_i _ 3 (by decide), ht, tup2]
    · simp only [List.cons.injEq, and_true] at e
      rw [← eL_inj e.2]
      exact hl
  obtain ⟨d, h1, h2⟩ := FT_ex ex
  obtain ⟨g, l, rfl, h3⟩ := h2 names a b rfl
  exact ⟨g, l, h1, h3⟩
theorem ex_law_turned (l : List Str) (n : Int) (hl : l.length ≤ 1000) : ∃ l' : List Str, F__law_turned [eL l, .int n] = some (eL l') ∧ l'.Perm l := by
  have e1 : startE 2 [eL l, .int n] = [some (.sh (eL l)), some (.sh (.int n))] := rfl
  have m0 : 0 ≤ n % (l.length + 1 : Int) := Int.emod_nonneg _ (by omega)
  have hk : (x2 oMod (bVar 1) (x2 oPlus (xL oLen (xsC (bVar 0) (xs0))) (xC (.int 1)))) [some (.sh (eL l)), some (.sh (.int n))] = some (.int (n % (l.length + 1 : Int))) := by
    simp only [x2, xL, xsC, xs0, xC, bVar, En.any, List.getElem?_cons_succ, List.getElem?_cons_zero, Option.bind_some, len_L, plus_i]
    exact mod_i _ _ (by omega)
  generalize hkk : n % (l.length + 1 : Int) = k at m0 hk
  have c1 := xcut_lo (a := bVar 0) (δ := [some (.sh (eL l)), some (.sh (.int n))]) (l := l) rfl hk m0
  have c2 := xcut_hi (a := bVar 0) (δ := [some (.sh (eL l)), some (.sh (.int n))]) (l := l) rfl hk m0
  have pm : ((l.drop k.toNat).reverse ++ l.take k.toNat).Perm l := by
    have h1 : ((l.drop k.toNat).reverse ++ l.take k.toNat).Perm (l.drop k.toNat ++ l.take k.toNat) := (List.reverse_perm _).append_right _
    have h2 : (l.drop k.toNat ++ l.take k.toNat).Perm (l.take k.toNat ++ l.drop k.toNat) := List.perm_append_comm
    rw [List.take_append_drop] at h2
    exact h1.trans h2
  have ex : ∃ d, ([eL l, D.int n].length = 2 ∧ T__law_turned (k4 d) (startE 2 [eL l, .int n])) ∧ G__law_turned [eL l, .int n] d := by
    rw [e1]
    refine ⟨eL ((l.drop k.toNat).reverse ++ l.take k.toNat), ⟨rfl, _, ?_, rfl⟩, fun l' n' e => ⟨_, rfl, ?_⟩⟩
    · simp only [x2, x1]
      rw [c1, c2]
      simp only [Option.bind_some, rev_L]
      exact cat_L _ _ (most_ge (by simp; omega))
    · simp only [List.cons.injEq, and_true] at e
      rw [← eL_inj e.1]
      exact pm
  obtain ⟨d, h1, h2⟩ := FT_ex ex
  obtain ⟨l', rfl, h3⟩ := h2 l n rfl
  exact ⟨l', h1, h3⟩
end BP
namespace BP
open PySem
theorem dPut_new (k v : D) (m : List (D × D)) (h : ∀ p ∈ m, p.1 ≠ k) : dPut k v m = m ++ [(k, v)] := by
  unfold dPut
  rw [if_neg]
  simp only [List.any_eq_true, decide_eq_true_eq, not_exists, not_and]
  exact fun p hp => h p hp
theorem fold_put : ∀ (ps m : List (D × D)), ((m ++ ps).map (·.1)).Nodup → ps.foldl (fun m p => dPut p.1 p.2 m) m = m ++ ps
  | [], m, _ => by simp
  | p :: r, m, h => by
    simp only [List.foldl_cons]
    rw [dPut_new p.1 p.2 m ?_, fold_put r (m ++ [(p.1, p.2)]) (by simpa using h)]
    · simp
    · intro q hq e
      rw [List.map_append, List.nodup_append] at h
      exact h.2.2 q.1 (List.mem_map.mpr ⟨q, hq, rfl⟩) p.1 (by simp) e
theorem pairs_of (sp : List (Str × Str)) : pairsOf (sp.map fun p => .tup [.str p.1, .str p.2]) = some (sp.map fun p => (.str p.1, .str p.2)) := by
  induction sp with
  | nil => rfl
  | cons p r ih => simp [pairsOf, keyOk, ih]
theorem dictP (sp : List (Str × Str)) (hl : sp.length ≤ 1000) (nd : (sp.map (·.1)).Nodup) : oDictP [.lst (sp.map fun p => .tup [.str p.1, .str p.2])] = some (eK sp) := by
  simp only [oDictP, List.length_map]
  rw [if_pos (most_ge hl), pairs_of, Option.map_some, fold_put _ [] ?_]
  · rfl
  · have := str_nodup nd
    simpa [List.map_map, Function.comp_def] using this
theorem spots_of {kinds : List Str} : ∀ {zs : List (Str × D)}, (∀ z ∈ zs, ∃ v ∈ kinds, z.2 = .tup [.str z.1, .str v]) → ∃ sp : List (Str × Str), sp.map (·.1) = zs.map (·.1) ∧ zs.map (·.2) = sp.map (fun p => D.tup [.str p.1, .str p.2]) ∧ ∀ p ∈ sp, p.2 ∈ kinds
  | [], _ => ⟨[], rfl, rfl, by simp⟩
  | z :: r, h => by
    obtain ⟨v, hv, e⟩ := h z (by simp)
    obtain ⟨sp, h1, h2, h3⟩ := spots_of (zs := r) fun y hy => h y (by simp [hy])
    refine ⟨(z.1, v) :: sp, by simp [h1], by simp [h2, e], fun p hp => ?_⟩
    rcases List.mem_cons.mp hp with rfl | hp
    · exact hv
    · exact h3 p hp
theorem lookup_mem {α β : Type} [BEq α] [LawfulBEq α] : ∀ {m : List (α × β)}, (m.map (·.1)).Nodup → ∀ e ∈ m, m.lookup e.1 = some e.2
  | [], _, e, h => by simp at h
  | (a, b) :: r, nd, e, h => by
    rw [List.map_cons, List.nodup_cons] at nd
    rcases List.mem_cons.mp h with rfl | h
    · simp
    · have ne : e.1 ≠ a := fun q => nd.1 (by rw [← q]; exact List.mem_map.mpr ⟨e, h, rfl⟩)
      rw [List.lookup_cons]
      have : (e.1 == a) = false := by simpa using ne
      rw [this]
      exact lookup_mem nd.2 e h
theorem pairs_nodup {ps ls : List Str} (hp : ps.Nodup) (hl : ls.Nodup) : (pairs ps ls).Nodup := by
  induction ps with
  | nil => simp [pairs]
  | cons p r ih =>
    rw [List.nodup_cons] at hp
    have e : pairs (p :: r) ls = ls.map (fun l => (p, l)) ++ pairs r ls := by simp [pairs]
    rw [e, List.nodup_append]
    refine ⟨List.Pairwise.map _ (fun a b hab e => hab (by injection e)) hl, ih hp.2, fun a ha b hb e => ?_⟩
    obtain ⟨l, _, rfl⟩ := List.mem_map.mp ha
    rw [← e] at hb
    exact hp.1 (mem_pairs.mp hb).1
def LL : List (List Str) := [["x", "y"], ["x"], ["y", "x", "z"], ["to", "sign"]]
def N6 : List (List Str) := [["a", "b", "c", "d", "e", "f"], ["f", "e", "place", "c", "to", "a"]]
def K6 : List Str := ["p", "q", "sign", "r", "s", "t"]
def T6 : List Str := ["a b c d e f", "f e place c to a"]
instance (s : Str) : Decidable (nameOk s) := by unfold nameOk; exact inferInstance
theorem LL_ok : ∀ l ∈ LL, 1 ≤ l.length ∧ l.length ≤ 3 ∧ l.Nodup ∧ ∀ s ∈ l, nameOk s := by decide +kernel
theorem N6_ok : ∀ l ∈ N6, l.length = 6 ∧ l.Nodup ∧ ∀ s ∈ l, nameOk s := by decide +kernel
theorem K6_ok : ∀ s ∈ K6, nameOk s := by decide +kernel
theorem T6_ok : ∀ t ∈ T6, ∃ n6 ∈ N6, oSplit (.str t) (.str " ") = some (eL n6) := by decide +kernel
theorem LL_ev (δ : En) : (xL oTup (xsC (xL oLst (xsC (xC (.str "x")) (xsC (xC (.str "y")) (xs0)))) (xsC (xL oLst (xsC (xC (.str "x")) (xs0))) (xsC (xL oLst (xsC (xC (.str "y")) (xsC (xC (.str "x")) (xsC (xC (.str "z")) (xs0))))) (xsC (xL oLst (xsC (xC (.str "to")) (xsC (xC (.str "sign")) (xs0)))) (xs0)))))) δ = some (.tup (LL.map eL)) := by
  simp [xL, xsC, xs0, xC, oLst, oTup, most, eL, LL]
theorem T6_ev (δ : En) : (xL oTup (xsC (xC (.str "a b c d e f")) (xsC (xC (.str "f e place c to a")) (xs0)))) δ = some (.tup (T6.map .str)) := by
  simp [xL, xsC, xs0, xC, oTup, most, T6]
theorem K6_ev (δ : En) : (xL oLst (xsC (xC (.str "p")) (xsC (xC (.str "q")) (xsC (xC (.str "sign")) (xsC (xC (.str "r")) (xsC (xC (.str "s")) (xsC (xC (.str "t")) (xs0)))))))) δ = some (eL K6) := by
  simp [xL, xsC, xs0, xC, oLst, most, K6, eL]
theorem L0_ev (δ : En) : (xL oLst (xs0)) δ = some (eL []) := by simp [xL, xs0, oLst, most, eL]
theorem L1_ev (δ : En) (a : Ex) (s : Str) (h : a δ = some (.str s)) : (xL oLst (xsC a (xs0))) δ = some (eL [s]) := by simp [xL, xsC, xs0, oLst, most, eL, h]
theorem ix_map {α : Type} (f : α → D) (l : List α) (c : Int) (h0 : 0 ≤ c) (h1 : c < l.length) : ∃ v ∈ l, oSub2 (.tup (l.map f)) (.int c) = some (f v) := by
  obtain ⟨d, hd, h2, _⟩ := ix_seq (l.map f) c h0 (by simpa using h1)
  obtain ⟨v, hv, rfl⟩ := List.mem_map.mp hd
  exact ⟨v, hv, h2⟩
theorem md (a b : Int) (h : 0 < b) : 0 ≤ a % b ∧ a % b < b := ⟨Int.emod_nonneg _ (by omega), Int.emod_lt_of_pos _ h⟩
abbrev Ms : Type := List ((Str × Str) × List Str)
def eM (m : Ms) : List (D × D) := m.map fun e => (.tup [.str e.1.1, .str e.1.2], eL e.2)
def fine (names : List Str) (l : List Str) : Prop := l.Nodup ∧ (∀ x ∈ l, x ∈ names) ∧ 1 ≤ l.length
theorem put_M (m : Ms) (p l : Str) (v : List Str) (h : (p, l) ∉ m.map (·.1)) : dPut (.tup [.str p, .str l]) (eL v) (eM m) = eM (m ++ [((p, l), v)]) := by
  rw [dPut_new]
  · simp [eM]
  · intro q hq e
    simp only [eM, List.mem_map] at hq
    obtain ⟨e', he, rfl⟩ := hq
    simp only [D.tup.injEq, List.cons.injEq, D.str.injEq, and_true] at e
    exact h (List.mem_map.mpr ⟨e', he, Prod.ext e.1 e.2⟩)
def webT : Tt := (sThen (sSet 13 (nSh (x2 oSub2 (bVar 3) (x2 oPlus (xC (.int 12)) (xL oLen (xsC (bVar 9) (xs0))))))) (sThen (sSet 14 (nSh (xLc (sEnumA (xsC (xVar 5) (xs0))) [16, 17] (gT (gsC (gN 16) (gsC (gN 17) (gs0)))) (tB (x2 oEq (x2 oBand (x2 oShr (bVar 13) (bVar 16)) (bVar 10)) (xC (.int 0)))) (xVar 17)))) (sThen (sDputT 9 (xL oTup (xsC (xVar 11) (xsC (xVar 12) (xs0)))) (xIf (tB (x2 oNe (bVar 14) (xL oLst (xs0)))) (xVar 14) (xL oLst (xsC (x2 oSub2 (bVar 5) (x2 oMod (bVar 13) (xL oLen (xsC (bVar 5) (xs0))))) (xs0))))) (sNext))))
/-- a list, or else one name of all -/
theorem or_one {δ : En} {i : Nat} {names l : List Str} {v : Int} {a : Ex} (hn : ∀ x ∈ names, nameOk x) (nd : names.Nodup) (h1 : 1 ≤ names.length) (hl : l.Sublist names) (hi : δ[i]? = some (some (.sh (eL l)))) (h5 : δ[5]? = some (some (.sh (eL names)))) (ha : a δ = some (.int v)) :
    ∃ r, fine names r ∧ (xIf (tB (x2 oNe (bVar i) (xL oLst (xs0)))) (xVar i) (xL oLst (xsC (x2 oSub2 (bVar 5) (x2 oMod a (xL oLen (xsC (bVar 5) (xs0))))) (xs0)))) δ = some (eL r) := by
  have nl : ∀ x ∈ l, nameOk x := fun x hx => hn x (hl.subset hx)
  have n0 : ∀ x ∈ ([] : List Str), nameOk x := by simp
  have bi : bVar i δ = some (eL l) := by simp only [bVar, En.any, hi]
  have xi : xVar i δ = some (eL l) := by simp only [xVar, En.sh, hi]
  have b5 : bVar 5 δ = some (eL names) := by simp only [bVar, En.any, h5]
  have ht : tB (x2 oNe (bVar i) (xL oLst (xs0))) δ = some (!decide (l = [])) := by
    simp only [tB, x2, bi, L0_ev, Option.bind_some, ne_L nl n0]
  by_cases e : l = []
  · obtain ⟨x, hx, hs⟩ := sub_L names (v % (names.length : Int)) (md v _ (by omega)).1 (md v _ (by omega)).2
    refine ⟨[x], ⟨by simp, by simpa using hx, by simp⟩, ?_⟩
    simp only [xIf, ht, e, decide_true, Bool.not_true, Option.bind_some, Bool.false_eq_true, if_false]
    refine L1_ev δ _ x ?_
    have hlen : xL oLen (xsC (bVar 5) (xs0)) δ = some (.int names.length) := by simp only [xL, xsC, xs0, b5, Option.bind_some, len_L]
    simp only [x2, b5, ha, hlen, Option.bind_some, mod_i _ _ (show (0 : Int) < names.length by omega), hs]
  · refine ⟨l, ⟨hl.nodup nd, fun x hx => hl.subset hx, List.length_pos_iff.mpr e⟩, ?_⟩
    simp only [xIf, ht, decide_eq_false e, Bool.not_false, Option.bind_some, if_true, xi]
theorem ex_law_web (sc : List Int) (k most' : Int) (h0 : 0 ≤ k) (hm : 1 ≤ most' ∧ most' ≤ 6) : ∃ w : Wb, F__law_web [eI sc, .int k, .int most'] = some (.tup w.parts) ∧ w.Ok := by
  obtain ⟨dr, hd, hdl⟩ := ex_law_digits sc k 60 1000003 h0 (by decide) (by decide)
  have hd : F__law_digits [eI sc, .int k, .int 60, .int 1000003] = some (eI dr) := hd
  have dat : ∀ c : Int, 0 ≤ c → c < 60 → ∃ v, oSub2 (eI dr) (.int c) = some (.int v) := fun c a b => by
    obtain ⟨v, _, h⟩ := sub_I dr c a (by omega)
    exact ⟨v, h⟩
  obtain ⟨v0, w0⟩ := dat 0 (by decide) (by decide)
  obtain ⟨v1, w1⟩ := dat 1 (by decide) (by decide)
  obtain ⟨v2, w2⟩ := dat 2 (by decide) (by decide)
  obtain ⟨v3, w3⟩ := dat 3 (by decide) (by decide)
  obtain ⟨v10, w10⟩ := dat 10 (by decide) (by decide)
  obtain ⟨v11, w11⟩ := dat 11 (by decide) (by decide)
  obtain ⟨ls, hls, els⟩ := ix_map eL LL (v0 % 4) (md v0 4 (by decide)).1 (md v0 4 (by decide)).2
  obtain ⟨l1, l3, lnd, lok⟩ := LL_ok ls hls
  obtain ⟨tx, htx, etx⟩ := ix_map D.str T6 (v1 % 2) (md v1 2 (by decide)).1 (md v1 2 (by decide)).2
  obtain ⟨n6, hn6, en6⟩ := T6_ok tx htx
  obtain ⟨nl6, nnd6, nok6⟩ := N6_ok n6 hn6
  have m2 := md v2 most' (by omega)
  have nnd : (n6.take (1 + v2 % most').toNat).Nodup := (List.take_sublist _ _).nodup nnd6
  have nok : ∀ x ∈ n6.take (1 + v2 % most').toNat, nameOk x := fun x hx => nok6 x (List.mem_of_mem_take hx)
  have nlen : (n6.take (1 + v2 % most').toNat).length = (1 + v2 % most').toNat := by
    rw [List.length_take, nl6]
    omega
  have h02 : 0 ≤ 1 + v2 % most' := by omega
  have n1 : 1 ≤ (n6.take (1 + v2 % most').toNat).length := by omega
  have n6' : (n6.take (1 + v2 % most').toNat).length ≤ 6 := by omega
  have cutn := fun (a b : Ex) (δ : En) (ha : a δ = some (eL n6)) (hb : b δ = some (.int (1 + v2 % most'))) => xcut_hi (a := a) (b := b) ha hb h02
  generalize hnm : n6.take (1 + v2 % most').toNat = names at *
  have m3 := md v3 names.length (by omega)
  have h03 : 0 ≤ 1 + v3 % (names.length : Int) := by omega
  have cutk := fun (a b : Ex) (δ : En) (ha : a δ = some (eL K6)) (hb : b δ = some (.int (1 + v3 % (names.length : Int)))) => xcut_hi (a := a) (b := b) ha hb h03
  have kok : ∀ x ∈ K6.take (1 + v3 % (names.length : Int)).toNat, nameOk x := fun x hx => K6_ok x (List.mem_of_mem_take hx)
  have k1 : 1 ≤ (K6.take (1 + v3 % (names.length : Int)).toNat).length := by
    rw [List.length_take]
    have : K6.length = 6 := rfl
    omega
  generalize hkn : K6.take (1 + v3 % (names.length : Int)).toNat = kinds at *
  let St : Option Sl → Option Sl → Option Sl → Option Sl → Option Sl → Option Sl → Option Sl → Option Sl → Option Sl → Option Sl → Option Sl → Option Sl → En := fun x3 x4 x5 x6 x7 x8 x9 x10 x11 x12 x13 x14 => [some (.sh (eI sc)), some (.sh (.int k)), some (.sh (.int most')), x3, x4, x5, x6, x7, x8, x9, x10, x11, x12, x13, x14, none, none, none]
  let Ld := some (Sl.sh (eI dr))
  let Ll := some (Sl.sh (eL ls))
  let Ln := some (Sl.sh (eL names))
  let Lk := some (Sl.sh (eL kinds))
  have e1 : startE 18 [eI sc, .int k, .int most'] = St none none none none none none none none none none none none := rfl
  -- spots
  obtain ⟨zs, s1, s2, s3, s4⟩ := cL_enum (g := gT (gsC (gN 15) (gsC (gN 11) (gs0)))) (p := tTrue) (f := xL oTup (xsC (xVar 11) (xsC (x2 oSub2 (bVar 6) (x2 oMod (x2 oSub2 (bVar 3) (x2 oPlus (xC (.int 4)) (xVar 15))) (xL oLen (xsC (bVar 6) (xs0))))) (xs0)))) (δ := (St Ld Ll Ln Lk none none none none none none none none).wipe [15, 11]) (fun x y => ∃ v ∈ kinds, y = .tup [.str x, .str v]) names 0 fun n x hn hx => by
    obtain ⟨v, hv⟩ := dat (4 + n) (by omega) (by omega)
    obtain ⟨s, hs, es⟩ := sub_L kinds (v % (kinds.length : Int)) (md v _ (by omega)).1 (md v _ (by omega)).2
    refine ⟨_, true, rfl, rfl, fun _ => ⟨.tup [.str x, .str s], ?_, s, hs, rfl⟩⟩
    simp only [xL, xsC, xs0, xC, x2, xVar, bVar, En.sh, En.any, En.put, En.wipe, St, Ld, Ll, Ln, Lk, List.set_cons_succ, List.set_cons_zero, List.getElem?_cons_succ, List.getElem?_cons_zero, Option.bind_some, plus_i, hv, len_L, mod_i _ _ (show (0 : Int) < kinds.length by omega), es, tup2]
  obtain ⟨sp, p1, p2, p3⟩ := spots_of s3
  have sn : sp.map (·.1) = names := by rw [p1]; exact s4 rfl
  have spl : sp.length = names.length := by rw [← sn, List.length_map]
  -- begins
  obtain ⟨bg, hbg, ebg⟩ := lc_enum (a := xVar 5) (δ := St Ld Ll Ln Lk (some (.sh (eK sp))) none none none none none none none) (names := names) (i := 15) (j := 11) (t := tB (x2 oEq (x2 oBand (x2 oShr (x2 oSub2 (bVar 3) (xC (.int 10))) (bVar 15)) (xC (.int 3))) (xC (.int 0)))) rfl (by simp [St]) (by simp [St]) (by decide) fun n x hn hx => by
    simp only [tB, x2, xC, bVar, En.any, En.put, En.wipe, St, Ld, Ll, Ln, Lk, List.set_cons_succ, List.set_cons_zero, List.getElem?_cons_succ, List.getElem?_cons_zero, Option.bind_some, w10, shr_n, band_i, eq_i]
    exact ⟨_, rfl⟩
  -- the mask
  obtain ⟨mk, hmk⟩ : ∃ mk : Int, (xIf (tB (x2 oEq (x2 oMod (x2 oSub2 (bVar 3) (xC (.int 11))) (xC (.int 3))) (xC (.int 0)))) (xC (.int 1)) (xC (.int 3))) (St Ld Ll Ln Lk (some (.sh (eK sp))) (some (.sh (eL bg))) none none none none none none) = some (.int mk) := by
    simp only [xIf, tB, x2, xC, bVar, En.any, St, Ld, Ll, Ln, Lk, List.getElem?_cons_succ, List.getElem?_cons_zero, Option.bind_some, w11, mod_i _ 3 (by decide), eq_i]
    split <;> exact ⟨_, rfl⟩
  let Sm : Ms → Option Sl → Option Sl → Option Sl → Option Sl → En := fun m x11 x12 x13 x14 => St Ld Ll Ln Lk (some (.sh (eK sp))) (some (.sh (eL bg))) (some (.ot (eM m))) (some (.sh (.int mk))) x11 x12 x13 x14
  have turn : ∀ (m : Ms) (p l : Str) (x13 x14 : Option Sl), m.length < 18 → (p, l) ∉ m.map (·.1) → ∃ v y13 y14, fine names v ∧ ∀ C : K4, C.nx (Sm (m ++ [((p, l), v)]) (some (.sh (.str p))) (some (.sh (.str l))) y13 y14) → webT C (Sm m (some (.sh (.str p))) (some (.sh (.str l))) x13 x14) := by
    intro m p l x13 x14 hml hnew
    obtain ⟨dv, hdv⟩ := dat (12 + m.length) (by omega) (by omega)
    obtain ⟨some_, hsub, esub⟩ := lc_enum (a := xVar 5) (δ := Sm m (some (.sh (.str p))) (some (.sh (.str l))) (some (.sh (.int dv))) x14) (names := names) (i := 16) (j := 17) (t := tB (x2 oEq (x2 oBand (x2 oShr (bVar 13) (bVar 16)) (bVar 10)) (xC (.int 0)))) rfl (by simp [St, Sm]) (by simp [St, Sm]) (by decide) fun n x hn hx => by
      simp only [tB, x2, xC, bVar, En.any, En.put, En.wipe, St, Sm, Ld, Ll, Ln, Lk, List.set_cons_succ, List.set_cons_zero, List.getElem?_cons_succ, List.getElem?_cons_zero, Option.bind_some, shr_n, band_i, eq_i]
      exact ⟨_, rfl⟩
    obtain ⟨r, hr, er⟩ := or_one (δ := Sm m (some (.sh (.str p))) (some (.sh (.str l))) (some (.sh (.int dv))) (some (.sh (eL some_)))) (i := 14) (names := names) (l := some_) (v := dv) (a := bVar 13) nok nnd n1 hsub rfl rfl rfl
    refine ⟨r, some (.sh (.int dv)), some (.sh (eL some_)), hr, fun C h => ⟨.sh (.int dv), ?_, .sh (eL some_), congrArg (Option.map Sl.sh) esub, eM m, .tup [.str p, .str l], eL r, rfl, er, ?_, rfl, ?_, ?_⟩⟩
    · have hl9 : oLen [D.dtt (eM m)] = some (.int m.length) := by simp [oLen, eM]
      simp only [nSh, x2, xC, xL, xsC, xs0, bVar, En.any, St, Sm, Ld, Ll, Ln, Lk, List.getElem?_cons_succ, List.getElem?_cons_zero, Option.bind_some, hl9, plus_i, hdv]
      rfl
    · simp only [xL, xsC, xs0, xVar, En.sh, En.put, St, Sm, Ld, Ll, Ln, Lk, List.set_cons_succ, List.set_cons_zero, List.getElem?_cons_succ, List.getElem?_cons_zero, Option.bind_some, tup2]
    · have : m.length < most := by unfold most; omega
      simpa [eM] using this
    · rw [put_M m p l r hnew]
      exact h
  have inner : ∀ (p : Str) (ls' : List Str) (m : Ms) (x12 x13 x14 : Option Sl), ls'.Nodup → (∀ l ∈ ls', (p, l) ∉ m.map (·.1)) → m.length + ls'.length ≤ 18 → ∃ (m' : Ms) (y12 y13 y14 : Option Sl), m'.map (·.1) = ls'.map (fun l => (p, l)) ∧ (∀ e ∈ m', fine names e.2) ∧ ∀ C : K4, C.nx (Sm (m ++ m') (some (.sh (.str p))) y12 y13 y14) → sForL (gN 12) webT C (ls'.map .str) (Sm m (some (.sh (.str p))) x12 x13 x14) := by
    intro p ls'
    induction ls' with
    | nil => intro m x12 x13 x14 _ _ _; exact ⟨[], x12, x13, x14, rfl, by simp, fun C h => by
        rw [List.append_nil] at h
        exact h⟩
    | cons l r ih =>
      intro m x12 x13 x14 nd hnew hlen
      rw [List.nodup_cons] at nd
      simp only [List.length_cons] at hlen
      obtain ⟨v, y13, y14, hv, hT⟩ := turn m p l x13 x14 (by omega) (hnew l (by simp))
      obtain ⟨m', z12, z13, z14, q1, q2, q3⟩ := ih (m ++ [((p, l), v)]) (some (.sh (.str l))) y13 y14 nd.2 (fun l' hl' hin => by
        rw [List.map_append, List.mem_append] at hin
        rcases hin with hin | hin
        · exact hnew l' (by simp [hl']) hin
        · simp at hin
          exact nd.1 (hin ▸ hl')) (by simp; omega)
      refine ⟨((p, l), v) :: m', z12, z13, z14, by simp [q1], fun e he => ?_, fun C h => ⟨Sm m (some (.sh (.str p))) (some (.sh (.str l))) x13 x14, rfl, hT _ (q3 C ?_)⟩⟩
      · rcases List.mem_cons.mp he with rfl | he
        · exact hv
        · exact q2 e he
      · simpa using h
  have outer : ∀ (ns : List Str) (m : Ms) (x11 x12 x13 x14 : Option Sl), ns.Nodup → (∀ q ∈ pairs ns ls, q ∉ m.map (·.1)) → m.length + ns.length * ls.length ≤ 18 → ∃ (m' : Ms) (y11 y12 y13 y14 : Option Sl), m'.map (·.1) = pairs ns ls ∧ (∀ e ∈ m', fine names e.2) ∧ ∀ C : K4, C.nx (Sm (m ++ m') y11 y12 y13 y14) → sForL (gN 11) (sThen (sFor (sLst (xVar 4)) (gN 12) webT) (sNext)) C (ns.map .str) (Sm m x11 x12 x13 x14) := by
    intro ns
    induction ns with
    | nil => intro m x11 x12 x13 x14 _ _ _; exact ⟨[], x11, x12, x13, x14, rfl, by simp, fun C h => by
        rw [List.append_nil] at h
        exact h⟩
    | cons p r ih =>
      intro m x11 x12 x13 x14 nd hnew hlen
      rw [List.nodup_cons] at nd
      have ep : pairs (p :: r) ls = ls.map (fun l => (p, l)) ++ pairs r ls := by simp [pairs]
      rw [ep] at hnew ⊢
      simp only [List.length_cons, Nat.succ_mul] at hlen
      obtain ⟨m1, z12, z13, z14, q1, q2, q3⟩ := inner p ls m x12 x13 x14 lnd (fun l hl => hnew _ (by simp [hl])) (by omega)
      have ml1 : m1.length = ls.length := by
        have := congrArg List.length q1
        simpa using this
      obtain ⟨m2, y11, y12, y13, y14, r1, r2, r3⟩ := ih (m ++ m1) (some (.sh (.str p))) z12 z13 z14 nd.2 (fun q hq hin => by
        rw [List.map_append, List.mem_append] at hin
        rcases hin with hin | hin
        · exact hnew q (by simp [hq]) hin
        · rw [q1] at hin
          obtain ⟨l, hl, rfl⟩ := List.mem_map.mp hin
          exact nd.1 (mem_pairs.mp hq).1) (by rw [List.length_append]; omega)
      refine ⟨m1 ++ m2, y11, y12, y13, y14, by simp [q1, r1], fun e he => ?_, fun C h => ⟨Sm m (some (.sh (.str p))) x12 x13 x14, rfl, ls.map .str, rfl, q3 _ (r3 C ?_)⟩⟩
      · rcases List.mem_append.mp he with he | he
        · exact q2 e he
        · exact r2 e he
      · simpa using h
  have hmul : names.length * ls.length ≤ 6 * 3 := Nat.mul_le_mul n6' l3
  obtain ⟨m, y11, y12, y13, y14, mp, mf, mC⟩ := outer names [] none none none none nnd (by simp) (by simp; omega)
  have pnd := pairs_nodup nnd lnd
  have mnd : (m.map (·.1)).Nodup := by rw [mp]; exact pnd
  let w : Wb := ⟨ls, sp, [], fun p l => (m.lookup (p, l)).getD []⟩
  have ew : eM m = (pairs names ls).map fun q => (D.tup [.str q.1, .str q.2], eL ((m.lookup (q.1, q.2)).getD [])) := by
    rw [← mp]
    simp only [eM, List.map_map, Function.comp_def]
    refine List.map_congr_left fun e he => ?_
    rw [show (e.1.1, e.1.2) = e.1 from rfl, lookup_mem mnd e he]
    rfl
  obtain ⟨br, hbr, ebr⟩ := or_one (δ := (Sm m y11 y12 y13 y14).put 9 (.sh (.dtt (eM m)))) (i := 8) (names := names) (l := bg) (v := v10) (a := x2 oSub2 (bVar 3) (xC (.int 10))) nok nnd n1 hbg rfl rfl (by simp only [x2, xC, bVar, En.any, En.put, St, Sm, Ld, Ll, Ln, Lk, List.set_cons_succ, List.set_cons_zero, List.getElem?_cons_succ, List.getElem?_cons_zero, Option.bind_some, w10])
  let w : Wb := ⟨ls, sp, br, fun p l => (m.lookup (p, l)).getD []⟩
  have wp : w.places = names := sn
  have wok : w.Ok := by
    refine ⟨l1, l3, lok, lnd, by rw [wp]; exact n1, by rw [wp]; exact n6', fun p hp => ⟨nok _ (by rw [← sn]; exact List.mem_map.mpr ⟨p, hp, rfl⟩), kok _ (p3 p hp)⟩, by rw [wp]; exact nnd, hbr.1, by rw [wp]; exact hbr.2.1, hbr.2.2, fun p hp l hl => ?_⟩
    rw [wp] at hp ⊢
    have hq : (p, l) ∈ m.map (·.1) := by rw [mp]; exact mem_pairs.mpr ⟨hp, hl⟩
    obtain ⟨e, he, h1⟩ := List.mem_map.mp hq
    have h2 := lookup_mem mnd e he
    have h3 := mf e he
    show ((m.lookup (p, l)).getD []).Nodup ∧ _ ∧ _
    rw [h1] at h2
    show ((m.lookup (p, l)).getD []).Nodup ∧ (∀ x ∈ (m.lookup (p, l)).getD [], x ∈ names) ∧ 1 ≤ ((m.lookup (p, l)).getD []).length
    rw [h2]
    exact h3
  have wparts : w.parts = [eL ls, eK sp, eL br, .dtt (eM m)] := by
    show [eL ls, eK sp, eL br, eW w.places ls fun p l => eL ((m.lookup (p, l)).getD [])] = _
    rw [wp, ew]
    rfl
  have ex : ∃ d, ([eI sc, .int k, .int most'].length = 3 ∧ T__law_web (k4 d) (startE 18 [eI sc, .int k, .int most'])) ∧ G__law_web [eI sc, .int k, .int most'] d := by
    rw [e1]
    refine ⟨.tup w.parts, ⟨rfl, .sh (eI dr), ?_, ?_⟩, w, wok, rfl⟩
    · simp only [nSh, xL, xsC, xs0, xC, xVar, En.sh, St, List.getElem?_cons_succ, List.getElem?_cons_zero, Option.bind_some, hd]
      rfl
    show sThen _ _ _ (St Ld none none none none none none none none none none none)
    refine ⟨.sh (eL ls), ?_, ?_⟩
    · simp only [nSh, x2]
      rw [LL_ev]
      simp only [xC, bVar, En.any, St, Ld, List.getElem?_cons_succ, List.getElem?_cons_zero, Option.bind_some, w0, mod_i _ 4 (by decide), els]
      rfl
    show sThen _ _ _ (St Ld Ll none none none none none none none none none none)
    refine ⟨.sh (eL names), ?_, ?_⟩
    · refine congrArg (Option.map Sl.sh) (cutn _ _ _ ?_ ?_)
      · simp only [x2]
        rw [T6_ev]
        simp only [xC, bVar, En.any, St, Ld, Ll, List.getElem?_cons_succ, List.getElem?_cons_zero, Option.bind_some, w1, mod_i _ 2 (by decide), etx, en6]
      · simp only [x2, xC, bVar, En.any, St, Ld, Ll, List.getElem?_cons_succ, List.getElem?_cons_zero, Option.bind_some, w2, mod_i _ most' (by omega), plus_i]
    show sThen _ _ _ (St Ld Ll Ln none none none none none none none none none)
    refine ⟨.sh (eL kinds), ?_, ?_⟩
    · refine congrArg (Option.map Sl.sh) (cutk _ _ _ (K6_ev _) ?_)
      simp only [x2, xL, xsC, xs0, xC, bVar, En.any, St, Ld, Ll, Ln, List.getElem?_cons_succ, List.getElem?_cons_zero, Option.bind_some, w3, len_L, mod_i _ (names.length : Int) (by omega), plus_i]
    show sThen _ _ _ (St Ld Ll Ln Lk none none none none none none none none)
    refine ⟨.sh (eK sp), ?_, ?_⟩
    · simp only [nSh, xL, xsC, xs0, xLc, Option.bind_some]
      have := enumA (St Ld Ll Ln Lk none none none none none none none none) (xVar 5) names rfl
      rw [this]
      try simp only [Option.bind_some]
      rw [s2]
      simp only [Option.map_some, Option.bind_some, p2]
      rw [dictP sp (by omega) (by rw [sn]; exact nnd)]
      rfl
    show sThen _ _ _ (St Ld Ll Ln Lk (some (.sh (eK sp))) none none none none none none none)
    refine ⟨.sh (eL bg), congrArg (Option.map Sl.sh) ebg, ?_⟩
    show sThen _ _ _ (St Ld Ll Ln Lk (some (.sh (eK sp))) (some (.sh (eL bg))) none none none none none none)
    refine ⟨.ot [], .sh (.int mk), ?_, names.map .str, rfl, mC _ ⟨.dtt (eM m), rfl, ?_⟩⟩
    · simp only [nsC, nT0, ns0, nSh, Option.bind_some, hmk, Option.map_some]
    show sThen _ _ _ ((Sm m y11 y12 y13 y14).put 9 (.sh (.dtt (eM m))))
    refine ⟨.tup w.parts, ?_, rfl⟩
    rw [wparts]
    simp only [xL, xsC, Option.bind_some, xs0]
    rw [ebr]
    simp only [xVar, En.sh, En.put, St, Sm, Ld, Ll, Ln, Lk, List.set_cons_succ, List.set_cons_zero, List.getElem?_cons_succ, List.getElem?_cons_zero, Option.bind_some, oTup]
    rw [if_pos (most_ge (by simp))]
  obtain ⟨d, h1, h2⟩ := FT_ex ex
  obtain ⟨w', h3, rfl⟩ := h2
  exact ⟨w', h1, h3⟩
end BP
namespace BP
open PySem
section
variable {α β : Type} {b : Bool} {g g2 : Gx} {src : Sx} {w : List Nat} {fk fv : Ex} {δ : En}
theorem cDk_all (e : α → D) (kk vv : α → D) : ∀ (l : List α) (m : List (D × D)), (∀ x ∈ l, ∃ δ', g (e x) δ = some δ' ∧ fk δ' = some (kk x) ∧ fv δ' = some (vv x) ∧ kOk b (kk x) = true) → (m.map (·.1) ++ l.map kk).Nodup → cD2.cDk b g fk fv δ (l.map e) m = some (m ++ l.map fun x => (kk x, vv x))
  | [], m, _, _ => by simp [cD2.cDk]
  | x :: r, m, h, nd => by
    obtain ⟨δ', h1, h2, h3, h4⟩ := h x (by simp)
    simp only [List.map_cons, cD2.cDk, h1, h2, h3, Option.bind_some, if_pos h4]
    rw [dPut_new (kk x) (vv x) m fun p hp ee => ?_, cDk_all e kk vv r _ (fun y hy => h y (by simp [hy])) (by simpa using nd)]
    · simp
    · rw [List.nodup_append] at nd
      exact nd.2.2 p.1 (List.mem_map.mpr ⟨p, hp, rfl⟩) (kk x) (by simp) ee
theorem cD2_all (e : α → D) (e1 : β → D) (inner : List β) (kk vv : α → β → D) : ∀ (l : List α) (m : List (D × D)), (∀ x ∈ l, ∃ δ', g (e x) δ = some δ' ∧ src δ' = some (inner.map e1) ∧ ∀ y ∈ inner, ∃ δ2, g2 (e1 y) (δ'.wipe w) = some δ2 ∧ fk δ2 = some (kk x y) ∧ fv δ2 = some (vv x y) ∧ kOk b (kk x y) = true) → (m.map (·.1) ++ l.flatMap fun x => inner.map (kk x)).Nodup →
    cD2 b g src w g2 fk fv δ (l.map e) m = some (m ++ l.flatMap fun x => inner.map fun y => (kk x y, vv x y))
  | [], m, _, _ => by simp [cD2]
  | x :: r, m, h, nd => by
    obtain ⟨δ', h1, h2, h3⟩ := h x (by simp)
    rw [List.flatMap_cons, ← List.append_assoc] at nd
    simp only [List.map_cons, cD2, h1, h2, Option.bind_some]
    rw [cDk_all e1 (kk x) (vv x) inner m h3 (List.nodup_append.mp nd).1]
    simp only [Option.bind_some]
    rw [cD2_all e e1 inner kk vv r _ (fun y hy => h y (by simp [hy])) (by
      rw [List.map_append, List.map_map]
      exact nd)]
    simp
end
theorem flat_strs (l : List Str) : flatDs (l.map .str) = true := by
  induction l with
  | nil => rfl
  | cons a r ih => simp [flatDs, flatD, ih]
theorem flat_T (l : List Str) : flatD (eT l) = true := flat_strs l
theorem dictD_K (l : List (Str × Str)) : oDictD [eK l] = some (eK l) := rfl
/-- self.in_turn(..) within __init__ -/
theorem own_turn {δ : En} {a : Nat} {fs : List (Str × D)} {w : Wb} {l : List Str} {g : Sx} (h0 : δ[0]? = some (some (.oo a 0 fs))) (hk : fs.lookup ("known" : Str) = some (eK w.spots)) (hn : fs.lookup ("in_turn" : Str) = none) (hg : g δ = some [eL l]) : xMethO 0 0 "in_turn" F_in_turn g δ = some (eT (w.inT l)) := by
  unfold xMethO
  rw [h0]
  simp only []
  rw [if_pos ⟨trivial, hn⟩, hg, Option.bind_some, ex_in_turn w fs l hk, Option.bind_some, if_pos (flat_T _)]
theorem pairs_keys {ps ls : List Str} (hp : ps.Nodup) (hl : ls.Nodup) : (ps.flatMap fun p => ls.map fun l => D.tup [.str p, .str l]).Nodup := by
  have e : (ps.flatMap fun p => ls.map fun l => D.tup [.str p, .str l]) = (pairs ps ls).map fun q => D.tup [.str q.1, .str q.2] := by
    unfold pairs
    rw [List.map_flatMap]
    simp [List.map_map, Function.comp_def]
  rw [e]
  refine List.Pairwise.map _ (fun a b hab e => hab ?_) (pairs_nodup hp hl)
  simp only [D.tup.injEq, List.cons.injEq, D.str.injEq, and_true] at e
  exact Prod.ext e.1 e.2
theorem eW_congr {ps ls : List Str} {v v' : Str → Str → D} (h : ∀ p ∈ ps, ∀ l ∈ ls, v p l = v' p l) : eW ps ls v = eW ps ls v' := by
  unfold eW
  congr 1
  refine List.map_congr_left fun q hq => ?_
  rw [h q.1 (mem_pairs.mp hq).1 q.2 (mem_pairs.mp hq).2]
theorem fields_same {w v : Wb} (e : w.parts = v.parts) : w.fields = v.fields := by
  have S := same_parts e
  simp only [Wb.parts, List.cons.injEq, and_true] at e
  obtain ⟨e1, e2, e3, e4⟩ := e
  have h2 := eK_inj e2
  have h3 := eL_inj e3
  unfold Wb.fields
  rw [← S.l, ← h2, ← S.p, ← h3, inT_same S, eW_congr fun p hp l hl => congrArg eT (S.i p hp l hl)]
theorem ex_init (w : Wb) (ok : w.Ok) : I_Web w.parts = some w.fields := by
  have ex : ∃ fs, (w.parts.length + 1 = 5 ∧ ∀ a, T_init (k4o a 0 fs) (startO 7 a 0 w.parts)) ∧ G_init w.parts fs := by
    refine ⟨w.fields, ⟨rfl, fun a => ?_⟩, fun v hv _ => fields_same hv⟩
    let St : List (Str × D) → En := fun fs => [some (.oo a 0 fs), some (.sh (eL w.letters)), some (.sh (eK w.spots)), some (.sh (eL w.begins)), some (.sh (eW w.places w.letters fun p l => eL (w.way p l))), none, none]
    show T_init (k4o a 0 w.fields) (St [])
    have b6 : w.begins.length ≤ 6 := Nat.le_trans (ok.bd.length_le_of_subset ok.bs) ok.p6
    have a1 := ex_are_letters w ok
    have a2 := ex_are_places w ok
    have a3 := ex_are_some w.begins w.places 1 ok.bd ok.bs (by have := ok.b1; omega) (by omega)
    have a4 := ex_are_ways w ok
    have lk : oList [eK w.spots] = some (eL w.places) := listK _
    refine ⟨false, ?_, ?_⟩
    · simp only [tNot, tB, xL, xsC, xs0, xVar, En.sh, St, List.getElem?_cons_succ, List.getElem?_cons_zero, Option.bind_some, a1, Option.map_some]
      rfl
    refine ⟨false, ?_, ?_⟩
    · simp only [tNot, tB, xL, xsC, xs0, xVar, En.sh, St, List.getElem?_cons_succ, List.getElem?_cons_zero, Option.bind_some, a2, Option.map_some]
      rfl
    refine ⟨false, ?_, ?_⟩
    · simp only [tNot, tB, xL, xsC, xs0, xC, xVar, bVar, En.any, En.sh, St, List.getElem?_cons_succ, List.getElem?_cons_zero, Option.bind_some, lk, a3, Option.map_some]
      rfl
    refine ⟨false, ?_, ?_⟩
    · simp only [tNot, tB, xL, xsC, xs0, xC, xVar, bVar, En.any, En.sh, St, List.getElem?_cons_succ, List.getElem?_cons_zero, Option.bind_some, lk, a4, Option.map_some]
      rfl
    refine ⟨a, [], eL w.letters, rfl, ?_, by decide, ?_⟩
    · simp only [xL, xsC, xs0, bVar, En.any, St, List.getElem?_cons_succ, List.getElem?_cons_zero, Option.bind_some, list1]
    show sThen _ _ _ (St [("moves", eL w.letters)])
    refine ⟨a, _, eK w.spots, rfl, ?_, by simp, ?_⟩
    · simp only [xL, xsC, xs0, bVar, En.any, St, List.getElem?_cons_succ, List.getElem?_cons_zero, Option.bind_some, dictD_K]
    have p2 : putFD "known" (eK w.spots) [(("moves" : Str), eL w.letters)] = [(("moves" : Str), eL w.letters), ("known", eK w.spots)] := by
      simp only [putFD]
      rw [if_neg (by decide +kernel)]
    rw [p2]
    show sThen _ _ _ (St [("moves", eL w.letters), ("known", eK w.spots)])
    refine ⟨a, _, eT (w.inT w.begins), rfl, ?_, by simp, ?_⟩
    · exact own_turn (w := w) (l := w.begins) rfl rfl rfl rfl
    have p3 : putFD "first" (eT (w.inT w.begins)) [(("moves" : Str), eL w.letters), ("known", eK w.spots)] = [(("moves" : Str), eL w.letters), ("known", eK w.spots), ("first", eT (w.inT w.begins))] := by
      simp only [putFD]
      rw [if_neg (by decide +kernel), if_neg (by decide +kernel)]
    rw [p3]
    generalize hfs : [(("moves" : Str), eL w.letters), ("known", eK w.spots), ("first", eT (w.inT w.begins))] = fs
    have hk : fs.lookup ("known" : Str) = some (eK w.spots) := by rw [← hfs]; rfl
    have hn : fs.lookup ("in_turn" : Str) = none := by rw [← hfs]; rfl
    show sThen _ _ _ (St fs)
    refine ⟨a, _, eW w.places w.letters fun p l => eT (w.inT (w.way p l)), rfl, ?_, by rw [← hfs]; simp, ?_⟩
    · have ks : sDct (xVar 2) dKeys (St fs) = some (w.places.map .str) := dk_of (l := w.spots) rfl
      unfold xDc2
      rw [ks, Option.bind_some]
      rw [cD2_all D.str D.str w.letters (fun p l => D.tup [.str p, .str l]) (fun p l => eT (w.inT (w.way p l))) w.places [] (fun p hp => ⟨_, rfl, rfl, fun l hl => ⟨_, rfl, ?_, ?_, rfl⟩⟩) (by simpa using pairs_keys ok.pd ok.ld)]
      · simp only [Option.bind_some, List.nil_append]
        have e2 : (w.places.flatMap fun x => w.letters.map fun l => (D.tup [.str x, .str l], eT (w.inT (w.way x l)))) = (pairs w.places w.letters).map fun q => (D.tup [.str q.1, .str q.2], eT (w.inT (w.way q.1 q.2))) := by
          unfold pairs
          rw [List.map_flatMap]
          simp [List.map_map, Function.comp_def]
        have hb : (pairs w.places w.letters).length ≤ 1000 := by
          rw [pairs_len]
          have : w.places.length * w.letters.length ≤ 6 * 3 := Nat.mul_le_mul ok.p6 ok.l3
          omega
        rw [e2, if_pos (most_ge (by rw [List.length_map]; exact hb))]
        rfl
      · simp only [xL, xsC, xs0, xVar, En.sh, En.put, En.wipe, St, List.set_cons_succ, List.set_cons_zero, List.getElem?_cons_succ, List.getElem?_cons_zero, Option.bind_some, tup2]
      · refine own_turn (w := w) (l := w.way p l) (a := a) (fs := fs) ?_ hk hn ?_
        · simp only [En.put, En.wipe, St, List.set_cons_succ, List.set_cons_zero, List.getElem?_cons_zero]
        · simp only [xL, x2, xsC, xs0, xVar, bVar, En.any, En.sh, En.put, En.wipe, St, List.set_cons_succ, List.set_cons_zero, List.getElem?_cons_succ, List.getElem?_cons_zero, Option.bind_some, tup2, sub_W _ hp hl]
    · have p4 : putFD "leads" (eW w.places w.letters fun p l => eT (w.inT (w.way p l))) fs = w.fields := by
        rw [← hfs]
        simp only [putFD]
        rw [if_neg (by decide +kernel), if_neg (by decide +kernel), if_neg (by decide +kernel)]
        rfl
      rw [p4]
      rfl
  obtain ⟨fs, h1, h2⟩ := IT_ex ex
  unfold I_Web
  rw [h1, h2 w rfl ok]
end BP
namespace BP
open PySem
def Hit (C C' : K4) : Prop := (∃ δ, C.nx δ ∧ C'.nx δ) ∨ (∃ δ, C.bk δ ∧ C'.bk δ) ∨ (∃ δ, C.ct δ ∧ C'.ct δ) ∨ (∃ d, C.rt d ∧ C'.rt d)
/-- two runs from one place share an end -/
def Dt (T : Tt) : Prop := ∀ C C' δ, T C δ → T C' δ → Hit C C'
theorem Hit.nx {C C' : K4} {δ : En} (h : C.nx δ) (h' : C'.nx δ) : Hit C C' := .inl ⟨δ, h, h'⟩
theorem Hit.rt {C C' : K4} {d : D} (h : C.rt d) (h' : C'.rt d) : Hit C C' := .inr (.inr (.inr ⟨d, h, h'⟩))
section
variable {T U : Tt} {f fk fv : Ex} {g : Gx} {i j : Nat}
theorem dt_next : Dt sNext := fun C C' δ h h' => .nx h h'
theorem dt_never : Dt sNever := fun C C' δ h => h.elim
theorem dt_ret : Dt (sRet f) := fun C C' δ ⟨d, h1, h2⟩ ⟨d', h3, h4⟩ => by rw [h1] at h3; cases h3; exact .rt h2 h4
theorem dt_retN : Dt sRetN := fun C C' δ h h' => .rt h h'
theorem dt_expr : Dt (sExpr f) := fun C C' δ ⟨d, h1, h2⟩ ⟨d', h3, h4⟩ => .nx h2 h4
theorem dt_dis : Dt (sDis i) := fun C C' δ ⟨d, h1, h2⟩ ⟨d', h3, h4⟩ => by rw [h1] at h3; cases h3; exact .nx h2 h4
theorem dt_then (a : Dt T) (b : Dt U) : Dt (sThen T U) := fun C C' δ h h' => by
  rcases a _ _ _ h h' with ⟨δ', h1, h2⟩ | h | h | h
  · exact b _ _ _ h1 h2
  · exact .inr (.inl h)
  · exact .inr (.inr (.inl h))
  · exact .inr (.inr (.inr h))
theorem dt_if {t : Tx} (a : Dt T) (b : Dt U) : Dt (sIf t T U) := fun C C' δ ⟨x, h1, h2⟩ ⟨y, h3, h4⟩ => by
  rw [h1] at h3; cases h3
  cases x with
  | true => rw [if_pos rfl] at h2 h4; exact a _ _ _ h2 h4
  | false => rw [if_neg Bool.false_ne_true] at h2 h4; exact b _ _ _ h2 h4
theorem dt_while {t : Tx} (a : Dt T) : Dt (sWhile t T) := fun C C' δ ⟨W, ⟨m, hm⟩, h⟩ ⟨W', ⟨m', hm'⟩, h'⟩ => by
  have key : ∀ (m m' : Nat) (δ : En), W m δ → W' m' δ → Hit C C' := by
    intro m
    induction m using Nat.strongRecOn with
    | _ m ih =>
      intro m' δ hm hm'
      obtain ⟨x, h1, h2⟩ := h m δ hm
      obtain ⟨y, h3, h4⟩ := h' m' δ hm'
      rw [h1] at h3; cases h3
      cases x with
      | true =>
        rw [if_pos rfl] at h2 h4
        rcases a _ _ _ h2 h4 with ⟨δ', ⟨m1, l1, w1⟩, ⟨m2, l2, w2⟩⟩ | ⟨δ', h5, h6⟩ | ⟨δ', ⟨m1, l1, w1⟩, ⟨m2, l2, w2⟩⟩ | h5
        · exact ih m1 l1 m2 δ' w1 w2
        · exact .nx h5 h6
        · exact ih m1 l1 m2 δ' w1 w2
        · exact .inr (.inr (.inr h5))
      | false => rw [if_neg Bool.false_ne_true] at h2 h4; exact .nx h2 h4
  exact key m m' δ hm hm'
theorem dt_forL (a : Dt T) (C C' : K4) : ∀ (ds : List D) (δ : En), sForL g T C ds δ → sForL g T C' ds δ → Hit C C'
  | [], δ, h, h' => .nx h h'
  | d :: r, δ, ⟨δ1, h1, h2⟩, ⟨δ2, h3, h4⟩ => by
    rw [h1] at h3; cases h3
    rcases a _ _ _ h2 h4 with ⟨δ', h5, h6⟩ | ⟨δ', h5, h6⟩ | ⟨δ', h5, h6⟩ | h5
    · exact dt_forL a C C' r δ' h5 h6
    · exact .nx h5 h6
    · exact dt_forL a C C' r δ' h5 h6
    · exact .inr (.inr (.inr h5))
theorem dt_for {src : Sx} (a : Dt T) : Dt (sFor src g T) := fun C C' δ ⟨ds, h1, h2⟩ ⟨ds', h3, h4⟩ => by rw [h1] at h3; cases h3; exact dt_forL a C C' ds δ h2 h4
theorem dt_set {n : En → Option Sl} : Dt (sSet i n) := fun C C' δ ⟨s, h1, h2⟩ ⟨s', h3, h4⟩ => by rw [h1] at h3; cases h3; exact .nx h2 h4
theorem dt_asg : Dt (sAsg f g) := fun C C' δ ⟨s, h1, δ1, h2, h3⟩ ⟨s', h4, δ2, h5, h6⟩ => by rw [h1] at h4; cases h4; rw [h2] at h5; cases h5; exact .nx h3 h6
theorem dt_par2 {ns : En → Option (List Sl)} : Dt (sPar2 i j ns) := fun C C' δ ⟨s, t, h1, h2⟩ ⟨s', t', h3, h4⟩ => by rw [h1] at h3; cases h3; exact .nx h2 h4
theorem dt_app : Dt (sApp i f) := fun C C' δ ⟨s, t, h1, h2, _, h3⟩ ⟨s', t', h4, h5, _, h6⟩ => by rw [h1] at h4; cases h4; rw [h2] at h5; cases h5; exact .nx h3 h6
theorem dt_dputT : Dt (sDputT i fk fv) := fun C C' δ ⟨s, t, v, h1, h2, h3, _, _, h4⟩ ⟨s', t', v', h5, h6, h7, _, _, h8⟩ => by rw [h1] at h5; cases h5; rw [h2] at h6; cases h6; rw [h3] at h7; cases h7; exact .nx h4 h8
theorem dt_dputK : Dt (sDputK i fk fv) := fun C C' δ ⟨s, t, v, h1, h2, h3, _, _, h4⟩ ⟨s', t', v', h5, h6, h7, _, _, h8⟩ => by rw [h1] at h5; cases h5; rw [h2] at h6; cases h6; rw [h3] at h7; cases h7; exact .nx h4 h8
theorem dt_dputN : Dt (sDputN i fk fv) := fun C C' δ ⟨s, t, v, h1, h2, h3, _, _, h4⟩ ⟨s', t', v', h5, h6, h7, _, _, h8⟩ => by rw [h1] at h5; cases h5; rw [h2] at h6; cases h6; rw [h3] at h7; cases h7; exact .nx h4 h8
theorem dt_fldS {c : Nat} {n : Str} : Dt (sFldS i c n f) := fun C C' δ ⟨a, s, t, h1, h2, _, h3⟩ ⟨a', s', t', h4, h5, _, h6⟩ => by rw [h1] at h4; cases h4; rw [h2] at h5; cases h5; exact .nx h3 h6
theorem dt_star : Dt (sStar i g j) := fun C C' δ ⟨s, t, δ1, h1, h2, h3⟩ ⟨s', t', δ2, h4, h5, h6⟩ => by rw [h1] at h4; cases h4; rw [h2] at h5; cases h5; exact .nx h3 h6
theorem dt_parG {ns : En → Option (List Sl)} : Dt (sParG g j ns) := fun C C' δ ⟨s, t, δ1, h1, h2, h3⟩ ⟨s', t', δ2, h4, h5, h6⟩ => by rw [h1] at h4; cases h4; rw [h2] at h5; cases h5; exact .nx h3 h6
theorem dt_lput : Dt (sLput i fk fv) := fun C C' δ ⟨ds, v, n, j, h1, h2, h3, h4, h5⟩ ⟨ds', v', n', j', k1, k2, k3, k4, k5⟩ => by rw [h1] at k1; cases k1; rw [h2] at k2; cases k2; rw [h3] at k3; cases k3; rw [h4] at k4; cases k4; exact .nx h5 k5
end
theorem hit_k4 {d d' : D} (h : Hit (k4 d) (k4 d')) : d = d' := by
  rcases h with ⟨δ, h1, h2⟩ | ⟨δ, h1, _⟩ | ⟨δ, h1, _⟩ | ⟨x, h1, h2⟩
  · exact (show d = .non from h1).trans (show d' = .non from h2).symm
  · exact h1.elim
  · exact h1.elim
  · exact (show x = d from h1).symm.trans (show x = d' from h2)
theorem hit_k4o {a c : Nat} {d d' : List (Str × D)} (h : Hit (k4o a c d) (k4o a c d')) : d = d' := by
  rcases h with ⟨δ, h1, h2⟩ | ⟨δ, h1, _⟩ | ⟨δ, h1, _⟩ | ⟨x, h1, h2⟩
  · have h1 : δ[0]? = some (some (.oo a c d)) := h1
    have h2 : δ[0]? = some (some (.oo a c d')) := h2
    rw [h1] at h2
    cases h2
    rfl
  · exact h1.elim
  · exact h1.elim
  · exact h1.elim
/-- a def's answer is what its reading says -/
noncomputable def FU (T : Tt) (n m : Nat) : List D → Option D := FT T n m fun _ _ => True
theorem FU_some {T : Tt} {n m : Nat} {ds : List D} {d : D} (h : FU T n m ds = some d) : ds.length = m ∧ T (k4 d) (startE n ds) := (FT_some h).1
theorem FT_one {T : Tt} {n m : Nat} {G : List D → D → Prop} {ds : List D} {d : D} (dt : Dt T) (hl : ds.length = m) (h : T (k4 d) (startE n ds)) (hg : G ds d) : FT T n m G ds = some d := by
  obtain ⟨d', h1, _⟩ := FT_ex (T := T) (n := n) (m := m) (G := G) (ds := ds) ⟨d, ⟨hl, h⟩, hg⟩
  rw [h1, hit_k4 (dt _ _ _ (FT_some h1).1.2 h)]
theorem FU_is {T : Tt} {n m : Nat} {ds : List D} {d : D} (dt : Dt T) (hl : ds.length = m) (h : T (k4 d) (startE n ds)) : FU T n m ds = some d := FT_one dt hl h trivial
open Classical in
noncomputable def IU (T : Tt) (n m c : Nat) : List D → Option (List (Str × D)) := fun ds => if h : ∃ fs, ds.length + 1 = m ∧ ∀ a, T (k4o a c fs) (startO n a c ds) then some h.choose else none
theorem IU_some {T : Tt} {n m c : Nat} {ds : List D} {d : List (Str × D)} (h : IU T n m c ds = some d) : ds.length + 1 = m ∧ ∀ a, T (k4o a c d) (startO n a c ds) := by
  unfold IU at h
  split at h
  · next q => cases h; exact q.choose_spec
  · cases h
theorem IU_is {T : Tt} {n m c : Nat} {ds : List D} {d : List (Str × D)} (dt : Dt T) (hl : ds.length + 1 = m) (h : ∀ a, T (k4o a c d) (startO n a c ds)) : IU T n m c ds = some d := by
  have hx : ∃ fs, ds.length + 1 = m ∧ ∀ a, T (k4o a c fs) (startO n a c ds) := ⟨d, hl, h⟩
  have e : IU T n m c ds = some hx.choose := by unfold IU; rw [dif_pos hx]
  rw [e, hit_k4o (dt _ _ _ ((IU_some e).2 0) (h 0))]
end BP
namespace BP
open PySem
def T_signs : Tt := sThen (sRet (xSort (vSc (sDct (x1 (oFldC 0 "known") (xVar 0)) dVals) [1] (gN 1) (xVar 1)))) (sNext)
theorem dt_signs : Dt T_signs := dt_then (dt_ret) (dt_next)
noncomputable def F_signs : List D → Option D := FU T_signs 2 1
def T_reached : Tt := sThen (sSet 3 (nSh (xDc2 true (sTups (xVar 1)) [4, 5] (gN 4) (sTups (x2 oSub2 (x1 (oFldC 0 "leads") (bVar 0)) (xL oTup (xsC (xVar 4) (xsC (xVar 2) (xs0)))))) [5] (gN 5) (xVar 5) (xC (.bl true))))) (sThen (sRet (oMeth 0 "in_turn" F_in_turn (xVar 0) (xsC (xVar 3) (xs0)))) (sNext))
theorem dt_reached : Dt T_reached := dt_then (dt_set) (dt_then (dt_ret) (dt_next))
noncomputable def F_reached : List D → Option D := FU T_reached 6 3
def T_at_sign : Tt := sThen (sRet (xL oTup1 (xsC (xLc (sTups (xVar 1)) [3] (gN 3) (tB (x2 oEq (x2 oSub2 (x1 (oFldC 0 "known") (bVar 0)) (xVar 3)) (bVar 2))) (xVar 3)) (xs0)))) (sNext)
theorem dt_at_sign : Dt T_at_sign := dt_then (dt_ret) (dt_next)
noncomputable def F_at_sign : List D → Option D := FU T_at_sign 4 3
def T_is_number : Tt := sThen (sRet (xAnd (tB (x1 (oIsi "int") (bVar 0))) (xAnd (tB (xT (tNot (tB (x1 (oIsi "bool") (bVar 0)))))) (xCh oLe oLe (bVar 1) (bVar 0) (bVar 2))))) (sNext)
theorem dt_is_number : Dt T_is_number := dt_then (dt_ret) (dt_next)
noncomputable def F_is_number : List D → Option D := FU T_is_number 3 3
def T_are_goes : Tt := sThen (sIf (BP.tOr (tNot (tB (x1 (oIsi "dict") (bVar 0)))) (BP.tOr (tB (x2 oNe (xL oLen (xsC (bVar 0) (xs0))) (xL oLen (xsC (bVar 1) (xs0))))) (tNot (tB (xL oAll (xsC (xLc (sLst (xVar 1)) [4] (gN 4) (tTrue) (x2 oIn (bVar 4) (bVar 0))) (xs0))))))) (sThen (sRet (xC (.bl false))) (sNext)) (sNext)) (sThen (sRet (xL oAll (xsC (xLc (sDct (xVar 0) dVals) [3] (gN 3) (tTrue) (xL F_is_number (xsC (xVar 3) (xsC (xC (.int 0)) (xsC (x2 oSub (bVar 2) (xC (.int 1))) (xs0)))))) (xs0)))) (sNext))
theorem dt_are_goes : Dt T_are_goes := dt_then (dt_if (dt_then (dt_ret) (dt_next)) (dt_next)) (dt_then (dt_ret) (dt_next))
noncomputable def F_are_goes : List D → Option D := FU T_are_goes 5 3
def T_check_plan : Tt := sThen (sIf (BP.tOr (tNot (tB (x1 (oIsi "dict") (bVar 0)))) (BP.tOr (tB (x2 oEqE (bVar 0) (xC (.dct [])))) (tNot (tB (xL oAll (xsC (xLc (sDct (xVar 0) dKeys) [3] (gN 3) (tTrue) (xL F_is_name (xsC (xVar 3) (xs0)))) (xs0))))))) (sThen (sNever) (sNext)) (sNext)) (sThen (sIf (BP.tOr (tNot (tB (x1 (oIsi "list") (bVar 1)))) (tNot (tB (xCh oLe oLe (xC (.int 1)) (xL oLen (xsC (bVar 1) (xs0))) (xC (.int 1000)))))) (sThen (sNever) (sNext)) (sNext)) (sThen (sIf (tNot (tB (xL F_are_goes (xsC (xVar 0) (xsC (xL oList (xsC (bVar 0) (xs0))) (xsC (xL oLen (xsC (bVar 1) (xs0))) (xs0))))))) (sThen (sNever) (sNext)) (sNext)) (sThen (sFor (sLst (xVar 1)) (gN 2) (sThen (sIf (BP.tOr (tNot (tB (x1 (oIsi "tuple") (bVar 2)))) (BP.tOr (tB (x2 oNe (xL oLen (xsC (bVar 2) (xs0))) (xC (.int 2)))) (tNot (tB (xL F_is_name (xsC (x2 oSub2 (bVar 2) (xC (.int 0))) (xs0))))))) (sThen (sNever) (sNext)) (sNext)) (sThen (sIf (tNot (tB (xL F_are_goes (xsC (x2 oSub2 (bVar 2) (xC (.int 1))) (xsC (xL oList (xsC (bVar 0) (xs0))) (xsC (xL oLen (xsC (bVar 1) (xs0))) (xs0))))))) (sThen (sNever) (sNext)) (sNext)) (sNext)))) (sNext))))
theorem dt_check_plan : Dt T_check_plan := dt_then (dt_if (dt_then (dt_never) (dt_next)) (dt_next)) (dt_then (dt_if (dt_then (dt_never) (dt_next)) (dt_next)) (dt_then (dt_if (dt_then (dt_never) (dt_next)) (dt_next)) (dt_then (dt_for (dt_then (dt_if (dt_then (dt_never) (dt_next)) (dt_next)) (dt_then (dt_if (dt_then (dt_never) (dt_next)) (dt_next)) (dt_next)))) (dt_next))))
noncomputable def F_check_plan : List D → Option D := FU T_check_plan 4 2
def T_initP : Tt := sThen (sExpr (xL F_check_plan (xsC (xVar 1) (xsC (xVar 2) (xs0))))) (sThen (sFldS 0 1 "opens" (xDc (sLst (x1 oSortD (bVar 1))) [3] (gN 3) (tTrue) (xVar 3) (x2 oSub2 (bVar 1) (xVar 3)))) (sThen (sFldS 0 1 "line" (xLc (sLst (xVar 2)) [4, 5] (gT (gsC (gN 4) (gsC (gN 5) (gs0)))) (tTrue) (xL oTup (xsC (xVar 4) (xsC (xDc (sLst (x1 oSortD (bVar 5))) [3] (gN 3) (tTrue) (xVar 3) (x2 oSub2 (bVar 5) (xVar 3))) (xs0)))))) (sNext)))
theorem dt_initP : Dt T_initP := dt_then (dt_expr) (dt_then (dt_fldS) (dt_then (dt_fldS) (dt_next)))
noncomputable def I_Plan : List D → Option (List (Str × D)) := IU T_initP 6 3 1
def T_fits : Tt := sThen (sRet (xAnd (tB (x2 oEq (xL oList (xsC (x1 (oFldC 1 "opens") (bVar 0)) (xs0))) (oMeth0 0 "signs" F_signs (xVar 1)))) (xL oAll (xsC (xLc (sLst (x1 (oFldC 1 "line") (bVar 0))) [2, 3] (gT (gsC (gN 2) (gsC (gN 3) (gs0)))) (tTrue) (x2 oIn (bVar 2) (x1 (oFldC 0 "moves") (bVar 1)))) (xs0))))) (sNext)
theorem dt_fits : Dt T_fits := dt_then (dt_ret) (dt_next)
noncomputable def F_fits : List D → Option D := FU T_fits 4 2
def T_check_fits : Tt := sThen (sIf (BP.tOr (tNot (tB (x1 (oIsC 1) (bVar 1)))) (tNot (tB (oMeth 1 "fits" F_fits (xVar 1) (xsC (xVar 0) (xs0)))))) (sThen (sNever) (sNext)) (sNext)) (sNext)
theorem dt_check_fits : Dt T_check_fits := dt_then (dt_if (dt_then (dt_never) (dt_next)) (dt_next)) (dt_next)
noncomputable def F_check_fits : List D → Option D := FU T_check_fits 2 2
def T_apart : Tt := sThen (sExpr (xL F_check_fits (xsC (xVar 0) (xsC (xVar 1) (xs0))))) (sThen (sExpr (xL F_check_fits (xsC (xVar 0) (xsC (xVar 2) (xs0))))) (sThen (sPar2 3 4 (nsC (nL0) (nsC (nN0) ns0))) (sThen (sFor (sLst (oMeth0 0 "signs" F_signs (xVar 0))) (gN 5) (sThen (sIf (tB (x2 oNe (oMeth 0 "at_sign" F_at_sign (xVar 0) (xsC (x1 (oFldC 0 "first") (bVar 0)) (xsC (xVar 5) (xs0)))) (xL oTup (xs0)))) (sThen (sApp 3 (xL oTup (xsC (x2 oSub2 (x1 (oFldC 1 "opens") (bVar 1)) (xVar 5)) (xsC (x2 oSub2 (x1 (oFldC 1 "opens") (bVar 2)) (xVar 5)) (xsC (oMeth 0 "at_sign" F_at_sign (xVar 0) (xsC (x1 (oFldC 0 "first") (bVar 0)) (xsC (xVar 5) (xs0)))) (xsC (xL oLst (xsC (xVar 5) (xs0))) (xs0))))))) (sNext)) (sNext)) (sNext))) (sThen (sWhile (tB (x2 oNe (bVar 3) (xL oLst (xs0)))) (sThen (sStar 3 (gT (gsC (gN 6) (gsC (gN 7) (gsC (gN 8) (gsC (gN 9) (gs0)))))) 3) (sThen (sSet 10 (nSh (x2 oSub2 (x2 oSub2 (x1 (oFldC 1 "line") (bVar 1)) (xVar 6)) (xC (.int 0))))) (sThen (sIf (tB (x2 oNe (bVar 10) (x2 oSub2 (x2 oSub2 (x1 (oFldC 1 "line") (bVar 2)) (xVar 7)) (xC (.int 0))))) (sThen (sRet (xVar 9)) (sNext)) (sNext)) (sThen (sIf (tB (xNotInN 4 (xL oTup (xsC (xVar 6) (xsC (xVar 7) (xsC (xVar 8) (xs0))))))) (sThen (sDputN 4 (xL oTup (xsC (xVar 6) (xsC (xVar 7) (xsC (xVar 8) (xs0))))) (xC (.bl true))) (sThen (sSet 11 (nSh (oMeth 0 "reached" F_reached (xVar 0) (xsC (xVar 8) (xsC (xVar 10) (xs0)))))) (sThen (sFor (sLst (oMeth0 0 "signs" F_signs (xVar 0))) (gN 5) (sThen (sIf (tB (x2 oNe (oMeth 0 "at_sign" F_at_sign (xVar 0) (xsC (xVar 11) (xsC (xVar 5) (xs0)))) (xL oTup (xs0)))) (sThen (sSet 12 (nSh (xL oTup (xsC (x2 oSub2 (x2 oSub2 (x2 oSub2 (x1 (oFldC 1 "line") (bVar 1)) (xVar 6)) (xC (.int 1))) (xVar 5)) (xsC (x2 oSub2 (x2 oSub2 (x2 oSub2 (x1 (oFldC 1 "line") (bVar 2)) (xVar 7)) (xC (.int 1))) (xVar 5)) (xs0)))))) (sThen (sApp 3 (x2 oPlus (xVar 12) (xL oTup (xsC (oMeth 0 "at_sign" F_at_sign (xVar 0) (xsC (xVar 11) (xsC (xVar 5) (xs0)))) (xsC (x2 oPlus (xVar 9) (xL oLst (xsC (xVar 5) (xs0)))) (xs0)))))) (sNext))) (sNext)) (sNext))) (sNext)))) (sNext)) (sNext)))))) (sThen (sRet (xC .non)) (sNext))))))
theorem dt_apart : Dt T_apart := dt_then (dt_expr) (dt_then (dt_expr) (dt_then (dt_par2) (dt_then (dt_for (dt_then (dt_if (dt_then (dt_app) (dt_next)) (dt_next)) (dt_next))) (dt_then (dt_while (dt_then (dt_star) (dt_then (dt_set) (dt_then (dt_if (dt_then (dt_ret) (dt_next)) (dt_next)) (dt_then (dt_if (dt_then (dt_dputN) (dt_then (dt_set) (dt_then (dt_for (dt_then (dt_if (dt_then (dt_set) (dt_then (dt_app) (dt_next))) (dt_next)) (dt_next))) (dt_next)))) (dt_next)) (dt_next)))))) (dt_then (dt_ret) (dt_next))))))
noncomputable def F_apart : List D → Option D := FU T_apart 13 3
def T__law_plan : Tt := sThen (sSet 4 (nSh (xL oDictP (xsC (xLc (sEnumA (xsC (xVar 2) (xs0))) [8, 9] (gT (gsC (gN 8) (gsC (gN 9) (gs0)))) (tTrue) (xL oTup (xsC (xVar 9) (xsC (x2 oMod (x2 oSub2 (bVar 0) (xVar 8)) (bVar 3)) (xs0))))) (xs0))))) (sThen (sSet 5 (nL0)) (sThen (sFor (sRange1 (xsC (xVar 3) (xs0))) (gN 6) (sThen (sSet 7 (nSh (xL oDictP (xsC (xLc (sEnumA (xsC (xVar 2) (xs0))) [8, 9] (gT (gsC (gN 8) (gsC (gN 9) (gs0)))) (tTrue) (xL oTup (xsC (xVar 9) (xsC (x2 oMod (x2 oDiv (x2 oSub2 (bVar 0) (x2 oMod (x2 oPlus (x2 oPlus (x2 oMul (bVar 6) (xC (.int 5))) (xVar 8)) (xC (.int 6))) (xL oLen (xsC (bVar 0) (xs0))))) (xC (.int 7))) (bVar 3)) (xs0))))) (xs0))))) (sThen (sApp 5 (xL oTup (xsC (x2 oSub2 (bVar 1) (x2 oMod (x2 oSub2 (bVar 0) (x2 oMod (x2 oPlus (xVar 6) (xC (.int 3))) (xL oLen (xsC (bVar 0) (xs0))))) (xL oLen (xsC (bVar 1) (xs0))))) (xsC (xVar 7) (xs0))))) (sNext)))) (sThen (sDis 5) (sThen (sRet (xL oTup (xsC (xVar 4) (xsC (xVar 5) (xs0))))) (sNext)))))
theorem dt__law_plan : Dt T__law_plan := dt_then (dt_set) (dt_then (dt_set) (dt_then (dt_for (dt_then (dt_set) (dt_then (dt_app) (dt_next)))) (dt_then (dt_dis) (dt_then (dt_ret) (dt_next)))))
noncomputable def F__law_plan : List D → Option D := FU T__law_plan 10 4
def T__law_other : Tt := sThen (sPar2 3 4 (nsC (nDictD (x2 oSub2 (bVar 0) (xC (.int 0)))) (nsC (nL (fList (x2 oSub2 (bVar 0) (xC (.int 1))))) ns0))) (sThen (sPar2 5 6 (nsC (nSh (xL oLen (xsC (bVar 4) (xs0)))) (nsC (nSh (x2 oMod (x2 oSub2 (bVar 1) (xC (.int 0))) (xC (.int 5)))) ns0))) (sThen (sPar2 7 8 (nsC (nSh (x2 oMod (x2 oSub2 (bVar 1) (xC (.int 1))) (bVar 5))) (nsC (nSh (x2 oSub2 (x1 oSortD (bVar 3)) (x2 oMod (x2 oSub2 (bVar 1) (xC (.int 2))) (xL oLen (xsC (bVar 3) (xs0)))))) ns0))) (sThen (sAsg (x2 oSub2 (bVar 4) (xVar 7)) (gT (gsC (gN 9) (gsC (gN 10) (gs0))))) (sThen (sIf (tB (x2 oEq (bVar 6) (xC (.int 0)))) (sThen (sLput 4 (xVar 7) (xL oTup (xsC (x2 oSub2 (bVar 2) (x2 oMod (x2 oSub2 (bVar 1) (xC (.int 3))) (xL oLen (xsC (bVar 2) (xs0))))) (xsC (xVar 10) (xs0))))) (sNext)) (sThen (sIf (tB (x2 oEq (bVar 6) (xC (.int 1)))) (sThen (sLput 4 (xVar 7) (xL oTup (xsC (xVar 9) (xsC (xL oDictP (xsC (xLc (sDct (xVar 10) dKeys) [11] (gN 11) (tTrue) (xL oTup (xsC (xVar 11) (xsC (xIf (tB (x2 oEq (bVar 11) (bVar 8))) (x2 oMod (x2 oSub2 (bVar 1) (xC (.int 3))) (bVar 5)) (x2 oSub2 (bVar 10) (xVar 11))) (xs0))))) (xs0))) (xs0))))) (sNext)) (sThen (sIf (tB (x2 oEq (bVar 6) (xC (.int 2)))) (sThen (sDputK 3 (xVar 8) (x2 oMod (x2 oSub2 (bVar 1) (xC (.int 3))) (bVar 5))) (sNext)) (sThen (sIf (tB (x2 oEq (bVar 6) (xC (.int 3)))) (sThen (sDis 3) (sThen (sSet 3 (nSh (xL oDictP (xsC (xLc (sDct (xVar 3) dKeys) [11] (gN 11) (tTrue) (xL oTup (xsC (xVar 11) (xsC (x2 oSub (x2 oSub (bVar 5) (xC (.int 1))) (x2 oSub2 (bVar 3) (xVar 11))) (xs0))))) (xs0))))) (sThen (sSet 4 (nSh (xLc (sLst (x1 oRev (bVar 4))) [12] (gN 12) (tTrue) (xL oTup (xsC (x2 oSub2 (bVar 12) (xC (.int 0))) (xsC (xL oDictP (xsC (xLc (sDct (x2 oIxT (xVar 12) (xC (.int 1))) dKeys) [11] (gN 11) (tTrue) (xL oTup (xsC (xVar 11) (xsC (x2 oSub (x2 oSub (bVar 5) (xC (.int 1))) (x2 oSub2 (x2 oSub2 (bVar 12) (xC (.int 1))) (xVar 11))) (xs0))))) (xs0))) (xs0))))))) (sNext)))) (sThen (sApp 4 (x2 oSub2 (bVar 4) (xVar 7))) (sThen (sDis 3) (sThen (sSet 3 (nSh (xL oDictP (xsC (xLc (sDct (xVar 3) dKeys) [11] (gN 11) (tTrue) (xL oTup (xsC (xVar 11) (xsC (xIf (BP.tAnd (tB (x2 oEq (x2 oSub2 (bVar 3) (xVar 11)) (bVar 7))) (tB (x2 oEq (x2 oMod (x2 oSub2 (bVar 1) (xC (.int 3))) (xC (.int 2))) (xC (.int 0))))) (xVar 5) (x2 oSub2 (bVar 3) (xVar 11))) (xs0))))) (xs0))))) (sNext))))) (sNext))) (sNext))) (sNext))) (sThen (sDis 4) (sThen (sDis 3) (sThen (sRet (xL oTup (xsC (xVar 3) (xsC (xVar 4) (xs0))))) (sNext))))))))
theorem dt__law_other : Dt T__law_other := dt_then (dt_par2) (dt_then (dt_par2) (dt_then (dt_par2) (dt_then (dt_asg) (dt_then (dt_if (dt_then (dt_lput) (dt_next)) (dt_then (dt_if (dt_then (dt_lput) (dt_next)) (dt_then (dt_if (dt_then (dt_dputK) (dt_next)) (dt_then (dt_if (dt_then (dt_dis) (dt_then (dt_set) (dt_then (dt_set) (dt_next)))) (dt_then (dt_app) (dt_then (dt_dis) (dt_then (dt_set) (dt_next))))) (dt_next))) (dt_next))) (dt_next))) (dt_then (dt_dis) (dt_then (dt_dis) (dt_then (dt_ret) (dt_next))))))))
noncomputable def F__law_other : List D → Option D := FU T__law_other 13 3
def T__law_due5 : Tt := sThen (sAsg (xVar 0) (gT (gsC (gN 3) (gsC (gN 4) (gsC (gN 5) (gsC (gN 6) (gs0))))))) (sThen (sSet 7 (nSh (xSort (vSet (x1 oListV (bVar 4)))))) (sThen (sPar2 8 9 (nsC (nL (fLst (xsC (xL oTup (xsC (xL oLst (xs0)) (xsC (xLc (sDct (xVar 4) dKeys) [20] (gN 20) (tB (x2 oIn (bVar 20) (bVar 5))) (xVar 20)) (xsC (xC .non) (xsC (xC .non) (xs0)))))) (xs0)))) (nsC (nL0) ns0))) (sThen (sWhile (tB (x2 oNe (bVar 8) (xL oLst (xs0)))) (sThen (sParG (gT (gsC (gN 10) (gsC (gN 11) (gsC (gN 12) (gsC (gN 13) (gs0)))))) 8 (nsC (nSh (x2 oSub2 (bVar 8) (xC (.int 0)))) (nsC (nL (fCut (bVar 8) (po1 (xC (.int 1))) (po0))) ns0))) (sThen (sFor (sLst (xVar 7)) (gN 14) (sThen (sSet 15 (nSh (xLc (sLst (xVar 11)) [20] (gN 20) (tB (x2 oEq (x2 oSub2 (bVar 4) (xVar 20)) (bVar 14))) (xVar 20)))) (sThen (sIf (tB (x2 oNe (bVar 15) (xL oLst (xs0)))) (sThen (sSet 16 (nSh (xIf (tB (x1 oIsN (bVar 12))) (x2 oSub2 (x2 oSub2 (bVar 1) (xC (.int 0))) (xVar 14)) (x2 oSub2 (x2 oSub2 (x2 oSub2 (x2 oSub2 (bVar 1) (xC (.int 1))) (xVar 12)) (xC (.int 1))) (xVar 14))))) (sThen (sSet 17 (nSh (xIf (tB (x1 oIsN (bVar 13))) (x2 oSub2 (x2 oSub2 (bVar 2) (xC (.int 0))) (xVar 14)) (x2 oSub2 (x2 oSub2 (x2 oSub2 (x2 oSub2 (bVar 2) (xC (.int 1))) (xVar 13)) (xC (.int 1))) (xVar 14))))) (sThen (sSet 18 (nSh (x2 oSub2 (x2 oSub2 (x2 oSub2 (bVar 1) (xC (.int 1))) (xVar 16)) (xC (.int 0))))) (sThen (sIf (tB (x2 oNe (bVar 18) (x2 oSub2 (x2 oSub2 (x2 oSub2 (bVar 2) (xC (.int 1))) (xVar 17)) (xC (.int 0))))) (sThen (sRet (x2 oPlus (xVar 10) (xL oLst (xsC (xVar 14) (xs0))))) (sNext)) (sNext)) (sThen (sSet 19 (nSh (xLc (sDct (xVar 4) dKeys) [20] (gN 20) (tB (xL oAny (xsC (xLc (sLst (xVar 15)) [21] (gN 21) (tTrue) (x2 oIn (bVar 20) (x2 oSub2 (bVar 6) (xL oTup (xsC (xVar 21) (xsC (xVar 18) (xs0))))))) (xs0)))) (xVar 20)))) (sThen (sIf (tB (x2 oNotInL (xL oTup (xsC (xVar 19) (xsC (xVar 16) (xsC (xVar 17) (xs0))))) (bVar 9))) (sThen (sApp 9 (xL oTup (xsC (xVar 19) (xsC (xVar 16) (xsC (xVar 17) (xs0)))))) (sThen (sApp 8 (xL oTup (xsC (x2 oPlus (xVar 10) (xL oLst (xsC (xVar 14) (xs0)))) (xsC (xVar 19) (xsC (xVar 16) (xsC (xVar 17) (xs0))))))) (sNext))) (sNext)) (sNext))))))) (sNext)) (sNext)))) (sNext)))) (sThen (sRet (xC .non)) (sNext)))))
theorem dt__law_due5 : Dt T__law_due5 := dt_then (dt_asg) (dt_then (dt_set) (dt_then (dt_par2) (dt_then (dt_while (dt_then (dt_parG) (dt_then (dt_for (dt_then (dt_set) (dt_then (dt_if (dt_then (dt_set) (dt_then (dt_set) (dt_then (dt_set) (dt_then (dt_if (dt_then (dt_ret) (dt_next)) (dt_next)) (dt_then (dt_set) (dt_then (dt_if (dt_then (dt_app) (dt_then (dt_app) (dt_next))) (dt_next)) (dt_next))))))) (dt_next)) (dt_next)))) (dt_next)))) (dt_then (dt_ret) (dt_next)))))
noncomputable def F__law_due5 : List D → Option D := FU T__law_due5 22 3
def T_law5 : Tt := sThen (sFor (sRange1 (xsC (xL oMax2 (xsC (xC (.int 1)) (xsC (xL oMin2 (xsC (xC (.int 10)) (xsC (xL oLen (xsC (bVar 0) (xs0))) (xs0)))) (xs0)))) (xs0))) (gN 1) (sThen (sPar2 2 3 (nsC (nSh (xL F__law_web (xsC (xVar 0) (xsC (xVar 1) (xsC (xC (.int 5)) (xs0)))))) (nsC (nSh (xL F__law_digits (xsC (xVar 0) (xsC (x2 oPlus (xVar 1) (xC (.int 1))) (xsC (xC (.int 40)) (xsC (xC (.int 1000003)) (xs0))))))) ns0))) (sThen (sSet 4 (nSh (xSort (vSet (x1 oListV (x2 oSub2 (bVar 2) (xC (.int 1)))))))) (sThen (sSet 5 (nSh (xL F__law_plan (xsC (xVar 3) (xsC (x2 oSub2 (bVar 2) (xC (.int 0))) (xsC (xVar 4) (xsC (x2 oPlus (xC (.int 1)) (x2 oMod (x2 oSub2 (bVar 3) (xC (.int 0))) (xC (.int 5)))) (xs0)))))))) (sThen (sSet 6 (nSh (xL F__law_other (xsC (xVar 5) (xsC (xCut (bVar 3) (po1 (xC (.int 20))) (po0)) (xsC (x2 oSub2 (bVar 2) (xC (.int 0))) (xs0))))))) (sThen (sIf (tB (x2 oEq (x2 oMod (x2 oSub2 (bVar 3) (xC (.int 1))) (xC (.int 3))) (xC (.int 0)))) (sThen (sSet 6 (nSh (xL F__law_plan (xsC (xCut (bVar 3) (po1 (xC (.int 7))) (po0)) (xsC (x2 oSub2 (bVar 2) (xC (.int 0))) (xsC (xVar 4) (xsC (x2 oPlus (xC (.int 1)) (x2 oMod (x2 oSub2 (bVar 3) (xC (.int 2))) (xC (.int 4)))) (xs0)))))))) (sNext)) (sNext)) (sThen (sSet 7 (nSh (oMake 0 I_Web (xsC (x2 oSub2 (bVar 2) (xC (.int 0))) (xsC (x2 oSub2 (bVar 2) (xC (.int 1))) (xsC (x2 oSub2 (bVar 2) (xC (.int 2))) (xsC (x2 oSub2 (bVar 2) (xC (.int 3))) (xs0)))))))) (sThen (sSet 8 (nSh (xL oLst (xsC (oMake 1 I_Plan (xsC (x2 oSub2 (bVar 5) (xC (.int 0))) (xsC (x2 oSub2 (bVar 5) (xC (.int 1))) (xs0)))) (xsC (oMake 1 I_Plan (xsC (x2 oSub2 (bVar 6) (xC (.int 0))) (xsC (x2 oSub2 (bVar 6) (xC (.int 1))) (xs0)))) (xs0)))))) (sThen (sSet 9 (nSh (xL F__law_due5 (xsC (xVar 2) (xsC (xVar 5) (xsC (xVar 6) (xs0))))))) (sThen (sIf (BP.tOr (tB (x2 oNe (xL F_apart (xsC (xVar 7) (xsC (x2 oSub2 (bVar 8) (xC (.int 0))) (xsC (x2 oSub2 (bVar 8) (xC (.int 1))) (xs0))))) (bVar 9))) (tB (x2 oNe (xL F_apart (xsC (xVar 7) (xsC (x2 oSub2 (bVar 8) (xC (.int 1))) (xsC (x2 oSub2 (bVar 8) (xC (.int 0))) (xs0))))) (bVar 9)))) (sThen (sRet (xC (.bl false))) (sNext)) (sNext)) (sThen (sIf (tB (x1 oNotN (xL F_apart (xsC (xVar 7) (xsC (x2 oSub2 (bVar 8) (xC (.int 0))) (xsC (x2 oSub2 (bVar 8) (xC (.int 0))) (xs0))))))) (sThen (sRet (xC (.bl false))) (sNext)) (sNext)) (sNext)))))))))))) (sThen (sRet (xC (.bl true))) (sNext))
theorem dt_law5 : Dt T_law5 := dt_then (dt_for (dt_then (dt_par2) (dt_then (dt_set) (dt_then (dt_set) (dt_then (dt_set) (dt_then (dt_if (dt_then (dt_set) (dt_next)) (dt_next)) (dt_then (dt_set) (dt_then (dt_set) (dt_then (dt_set) (dt_then (dt_if (dt_then (dt_ret) (dt_next)) (dt_next)) (dt_then (dt_if (dt_then (dt_ret) (dt_next)) (dt_next)) (dt_next)))))))))))) (dt_then (dt_ret) (dt_next))
end BP
namespace BP
open PySem
def Wb.signs (w : Wb) : List Str := sortT (seenT (w.spots.map (·.2)) [])
def Wb.at_ (w : Wb) (l : List Str) (s : Str) : List Str := l.filter fun p => decide (w.spots.lookup p = Option.some s)
def Wb.reach (w : Wb) (l : List Str) (x : Str) : List Str := w.places.filter fun q => l.any fun p => decide (q ∈ w.way p x)
def Wb.first (w : Wb) : List Str := w.inT w.begins
def eG (ss : List Str) (f : Str → Nat) : D := .dct (ss.map fun s => (.str s, .int (f s)))
structure Pl where
  opens : Str → Nat
  line : List (Str × (Str → Nat))
def eSt (ss : List Str) (st : Str × (Str → Nat)) : D := .tup [.str st.1, eG ss st.2]
def Pl.eS (p : Pl) (ss : List Str) : D := .lst (p.line.map (eSt ss))
def Pl.parts (p : Pl) (ss : List Str) : List D := [eG ss p.opens, p.eS ss]
def Pl.fields (p : Pl) (ss : List Str) : List (Str × D) := [("opens", eG ss p.opens), ("line", p.eS ss)]
def Pl.obj (p : Pl) (ss : List Str) : D := .obj 1 (p.fields ss)
structure Pl.Ok (p : Pl) (ss ls : List Str) : Prop where
  n1 : 1 ≤ p.line.length
  n8 : p.line.length ≤ 8
  o : ∀ s ∈ ss, p.opens s < p.line.length
  g : ∀ st ∈ p.line, st.1 ∈ ls ∧ ∀ s ∈ ss, st.2 s < p.line.length
theorem seenT_mem : ∀ (ds acc : List Str) (x : Str), x ∈ seenT ds acc ↔ x ∈ acc ∨ x ∈ ds
  | [], acc, x => by simp [seenT]
  | d :: r, acc, x => by
    unfold seenT
    rw [seenT_mem r]
    by_cases h : d ∈ acc
    · rw [if_pos h]
      constructor
      · rintro (h1 | h1); exact .inl h1; exact .inr (by simp [h1])
      · rintro (h1 | h1)
        · exact .inl h1
        · rcases List.mem_cons.mp h1 with rfl | h1
          · exact .inl h
          · exact .inr h1
    · rw [if_neg h]
      simp only [List.mem_append, List.mem_cons, List.not_mem_nil, or_false]
      constructor
      · rintro ((h1 | h1) | h1); exact .inl h1; exact .inr (.inl h1); exact .inr (.inr h1)
      · rintro (h1 | h1 | h1); exact .inl (.inl h1); exact .inl (.inr h1); exact .inr h1
theorem seenT_nodup : ∀ (ds acc : List Str), acc.Nodup → (seenT ds acc).Nodup
  | [], acc, h => h
  | d :: r, acc, h => by
    unfold seenT
    by_cases hd : d ∈ acc
    · rw [if_pos hd]; exact seenT_nodup r acc h
    · rw [if_neg hd]
      refine seenT_nodup r _ (List.nodup_append.mpr ⟨h, by simp, fun a ha b hb e => hd ?_⟩)
      simp only [List.mem_singleton] at hb
      rw [← hb, ← e]; exact ha
theorem Wb.signs_mem (w : Wb) (s : Str) : s ∈ w.signs ↔ ∃ p ∈ w.spots, p.2 = s := by
  unfold Wb.signs
  rw [(sortT_perm _).mem_iff, seenT_mem]
  simp
theorem Wb.signs_nodup (w : Wb) : w.signs.Nodup := (sortT_perm _).nodup_iff.mpr (seenT_nodup _ _ (by simp))
theorem Wb.signs_sorted (w : Wb) : sortT w.signs = w.signs := pw_uniq ((sortT_perm _)) (sortT_pw _) (sortT_pw _)
theorem Wb.Ok.s6 {w : Wb} (ok : w.Ok) : w.signs.length ≤ 6 := by
  have h1 := (sortT_perm (seenT (w.spots.map (·.2)) [])).length_eq
  have h2 := (seenT_len (w.spots.map (·.2)) []).2
  have h3 := ok.p6
  simp only [Wb.places, List.length_map, List.length_nil] at h2 h3
  unfold Wb.signs
  omega
theorem Wb.Ok.s1 {w : Wb} (ok : w.Ok) : w.signs ≠ [] := fun e => by
  have h := ok.p1
  unfold Wb.places at h
  cases hs : w.spots with
  | nil => rw [hs] at h; simp at h
  | cons p r =>
    have : p.2 ∈ w.signs := (w.signs_mem _).mpr ⟨p, by simp [hs], rfl⟩
    rw [e] at this
    simp at this
theorem Wb.Ok.sn {w : Wb} (ok : w.Ok) : ∀ s ∈ w.signs, nameOk s := fun s hs => by
  obtain ⟨p, hp, rfl⟩ := (w.signs_mem s).mp hs
  exact (ok.pn p hp).2
theorem Wb.Ok.look {w : Wb} (ok : w.Ok) {p : Str} (hp : p ∈ w.places) : ∃ s ∈ w.signs, w.spots.lookup p = some s := by
  unfold Wb.places at hp
  obtain ⟨e, he, rfl⟩ := List.mem_map.mp hp
  exact ⟨e.2, (w.signs_mem _).mpr ⟨e, he, rfl⟩, lookup_mem ok.pd e he⟩
theorem spots_ev {w : Wb} (ok : w.Ok) : strsOf (w.spots.map fun p => D.str p.2) = some (w.spots.map (·.2)) := by
  have := map_strsOf (w.spots.map (·.2))
  rw [List.map_map] at this
  exact this
theorem Wb.Ok.sp6 {w : Wb} (ok : w.Ok) : w.spots.length ≤ 6 := by have := ok.p6; simpa [Wb.places] using this
theorem seen64 {w : Wb} (ok : w.Ok) : (seenT (w.spots.map (·.2)) []).length < 64 := by
  have h2 := (seenT_len (w.spots.map (·.2)) []).2
  have := ok.sp6
  simp only [List.length_map, List.length_nil] at h2
  omega
theorem ex_signs (w : Wb) (ok : w.Ok) (fs : List (Str × D)) (hk : fs.lookup ("known" : Str) = some (eK w.spots)) : F_signs [.obj 0 fs] = some (eL w.signs) := by
  refine FU_is dt_signs rfl ⟨eL w.signs, ?_, rfl⟩
  have e1 : startE 2 [.obj 0 fs] = [some (.sh (.obj 0 fs)), none] := rfl
  rw [e1]
  have h0 : x1 (oFldC 0 "known") (xVar 0) [some (.sh (.obj 0 fs)), none] = some (eK w.spots) := by simp [x1, xVar, En.sh, oFldC, hk]
  unfold xSort vSc sDct
  rw [h0]
  simp only [eK, Option.bind_some, dVals, List.map_map, Function.comp_def]
  rw [cL_all (fun p : Str × Str => D.str p.2) (fun p => D.str p.2) _ fun x _ => ⟨_, rfl, by simp [xVar, En.sh, En.put, En.wipe]⟩]
  simp only [Option.bind_some, spots_ev ok]
  have := ok.sp6
  rw [if_pos (by rw [List.length_map]; omega), Option.bind_some, if_pos (seen64 ok)]
  rfl
theorem signs_law (w : Wb) (ok : w.Ok) {a : Ex} {δ : En} (h : a δ = some (eK w.spots)) : xSort (vSet (x1 oListV a)) δ = some (eL w.signs) := by
  unfold xSort vSet x1
  rw [h]
  have e : oListV (eK w.spots) = some (.lst (w.spots.map fun p => .str p.2)) := by simp [oListV, eK, List.map_map, Function.comp_def]
  have := ok.sp6
  simp only [Option.bind_some, e, spots_ev ok]
  rw [if_pos (by rw [List.length_map]; omega), Option.bind_some, if_pos (seen64 ok)]
  rfl
theorem dt_in_turn : Dt T_in_turn := dt_then dt_ret dt_next
theorem ex_in_turnD (w : Wb) (fs : List (Str × D)) (kvs : List (D × D)) (hk : fs.lookup ("known" : Str) = some (eK w.spots)) : F_in_turn [.obj 0 fs, .dct kvs] = some (eT (w.places.filter fun p => (dLook (.str p) kvs).isSome)) := by
  refine FT_one dt_in_turn rfl ?_ fun w' fs' s' e => ?_
  · have e1 : startE 3 [.obj 0 fs, .dct kvs] = [some (.sh (.obj 0 fs)), some (.sh (.dct kvs)), none] := rfl
    rw [e1]
    refine ⟨_, ?_, rfl⟩
    have ev := lc_keys (a := x1 (oFldC 0 "known") (xVar 0)) (δ := [some (.sh (.obj 0 fs)), some (.sh (.dct kvs)), none]) (i := 2) (t := tB (x2 oIn (bVar 2) (bVar 1))) (b := fun p => (dLook (.str p) kvs).isSome) (l := w.spots) (by simp [x1, xVar, En.sh, oFldC, hk]) (by simp) fun p hp => by simp [tB, x2, bVar, En.any, En.put, En.wipe, oIn, keyOk]
    simp only [xL, xsC, xs0, Option.bind_some]
    rw [ev, Option.bind_some, Option.bind_some, tup1]
    rfl
  · simp [eL] at e
theorem look_put (k v j : D) (m : List (D × D)) : (dLook j (dPut k v m)).isSome = (decide (j = k) || (dLook j m).isSome) := by
  unfold dPut
  split
  · next h =>
    have key : ∀ m : List (D × D), (dLook j (m.map fun p => if p.1 = k then (p.1, v) else p)).isSome = (dLook j m).isSome := fun m => by
      induction m with
      | nil => rfl
      | cons p r ih =>
        obtain ⟨a, x⟩ := p
        simp only [List.map_cons]
        by_cases ha : a = k
        · simp only [if_pos ha, dLook]
          split
          · rfl
          · exact ih
        · simp only [if_neg ha, dLook]
          split
          · rfl
          · exact ih
    rw [key]
    by_cases hj : j = k
    · subst hj
      have : (dLook j m).isSome = true := by
        clear key
        induction m with
        | nil => simp at h
        | cons p r ih =>
          obtain ⟨a, x⟩ := p
          simp only [dLook]
          split
          · rfl
          · next hne =>
            rw [List.any_cons, Bool.or_eq_true] at h
            rcases h with h | h
            · exact absurd (of_decide_eq_true h) hne
            · exact ih h
      simp [this]
    · simp [hj]
  · have key : ∀ m : List (D × D), (dLook j (m ++ [(k, v)])).isSome = (decide (j = k) || (dLook j m).isSome) := fun m => by
      induction m with
      | nil =>
        simp only [List.nil_append, dLook]
        by_cases hj : k = j
        · rw [if_pos hj]; simp [hj]
        · rw [if_neg hj]; simp [Ne.symm hj]
      | cons p r ih =>
        obtain ⟨a, x⟩ := p
        simp only [List.cons_append, dLook]
        split
        · simp
        · exact ih
    exact key m
section
variable {g g2 : Gx} {src : Sx} {w : List Nat} {fk fv : Ex} {δ : En}
theorem cDk_keys {α : Type} (e : α → D) (kk : α → D) : ∀ (l : List α) (m : List (D × D)), (∀ x ∈ l, ∃ δ' v, g (e x) δ = some δ' ∧ fk δ' = some (kk x) ∧ fv δ' = some v ∧ kOk true (kk x) = true) → ∃ m', cD2.cDk true g fk fv δ (l.map e) m = some m' ∧ m'.length ≤ m.length + l.length ∧ ∀ j, (dLook j m').isSome = ((dLook j m).isSome || l.any fun x => decide (j = kk x))
  | [], m, _ => ⟨m, rfl, by simp, by simp⟩
  | x :: r, m, h => by
    obtain ⟨δ', v, h1, h2, h3, h4⟩ := h x (by simp)
    obtain ⟨m', h5, h6, h7⟩ := cDk_keys e kk r (dPut (kk x) v m) fun y hy => h y (by simp [hy])
    refine ⟨m', ?_, ?_, fun j => ?_⟩
    · simp only [List.map_cons, cD2.cDk, h1, h2, h3, Option.bind_some, if_pos h4]
      exact h5
    · have := dPut_le (k := kk x) (v := v) (m := m)
      simp only [List.length_cons]; omega
    · rw [h7, look_put, List.any_cons]
      cases decide (j = kk x) <;> cases (dLook j m).isSome <;> simp
theorem cD2_keys {α β : Type} (e : α → D) (e1 : β → D) (kids : α → List β) (kk : β → D) : ∀ (l : List α) (m : List (D × D)), (∀ x ∈ l, ∃ δ', g (e x) δ = some δ' ∧ src δ' = some ((kids x).map e1) ∧ ∀ y ∈ kids x, ∃ δ2 v, g2 (e1 y) (δ'.wipe w) = some δ2 ∧ fk δ2 = some (kk y) ∧ fv δ2 = some v ∧ kOk true (kk y) = true) →
    ∃ m', cD2 true g src w g2 fk fv δ (l.map e) m = some m' ∧ m'.length ≤ m.length + (l.flatMap kids).length ∧ ∀ j, (dLook j m').isSome = ((dLook j m).isSome || l.any fun x => (kids x).any fun y => decide (j = kk y))
  | [], m, _ => ⟨m, rfl, by simp, by simp⟩
  | x :: r, m, h => by
    obtain ⟨δ', h1, h2, h3⟩ := h x (by simp)
    obtain ⟨m1, h4, h5, h6⟩ := cDk_keys (g := g2) (fk := fk) (fv := fv) (δ := δ'.wipe w) e1 kk (kids x) m h3
    obtain ⟨m2, h7, h8, h9⟩ := cD2_keys e e1 kids kk r m1 fun y hy => h y (by simp [hy])
    refine ⟨m2, ?_, ?_, fun j => ?_⟩
    · simp only [List.map_cons, cD2, h1, h2, h4, Option.bind_some]
      exact h7
    · simp only [List.flatMap_cons, List.length_append]; omega
    · rw [h9, h6, List.any_cons, Bool.or_assoc]
end
theorem ex_reached (w : Wb) (ok : w.Ok) (l : List Str) (x : Str) (hl : ∀ p ∈ l, p ∈ w.places) (h6 : l.length ≤ 6) (hx : x ∈ w.letters) : F_reached [w.obj, eT l, .str x] = some (eT (w.reach l x)) := by
  refine FU_is dt_reached rfl ?_
  have e1 : startE 6 [w.obj, eT l, .str x] = [some (.sh w.obj), some (.sh (eT l)), some (.sh (.str x)), none, none, none] := rfl
  rw [e1]
  obtain ⟨m, h1, h2, h3⟩ := cD2_keys (g := gN 4) (src := sTups (x2 oSub2 (x1 (oFldC 0 "leads") (bVar 0)) (xL oTup (xsC (xVar 4) (xsC (xVar 2) (xs0)))))) (w := [5]) (g2 := gN 5) (fk := xVar 5) (fv := xC (.bl true)) (δ := [some (.sh w.obj), some (.sh (eT l)), some (.sh (.str x)), none, none, none]) D.str D.str (fun p => w.inT (w.way p x)) D.str l [] fun p hp => by
    refine ⟨_, rfl, ?_, fun y hy => ⟨_, .bl true, rfl, ?_, rfl, rfl⟩⟩
    · simp only [sTups, x2, x1, bVar, xVar, En.any, En.sh, En.put, List.set_cons_succ, List.set_cons_zero, List.getElem?_cons_succ, List.getElem?_cons_zero, xL, xsC, xs0, Option.bind_some, obj_leads, tup2, sub_W _ (hl p hp) hx]
      rfl
    · simp [xVar, En.sh, En.put, En.wipe]
  have hm : m.length ≤ most := by
    have key : ∀ l : List Str, l.length ≤ 6 → (l.flatMap fun p => w.inT (w.way p x)).length ≤ 6 * l.length := fun l _ => by
      induction l with
      | nil => simp
      | cons a r ih =>
        rw [List.flatMap_cons, List.length_append, List.length_cons]
        have : (w.inT (w.way a x)).length ≤ 6 := Nat.le_trans (List.length_filter_le _ _) ok.p6
        have := ih (by simp only [List.length_cons] at *; omega)
        omega
    have := key l h6
    have h2 : m.length ≤ (l.flatMap fun p => w.inT (w.way p x)).length := by simpa using h2
    unfold most
    omega
  refine ⟨.sh (.dct m), ?_, eT (w.reach l x), ?_, rfl⟩
  · have : xDc2 true (sTups (xVar 1)) [4, 5] (gN 4) (sTups (x2 oSub2 (x1 (oFldC 0 "leads") (bVar 0)) (xL oTup (xsC (xVar 4) (xsC (xVar 2) (xs0)))))) [5] (gN 5) (xVar 5) (xC (.bl true)) [some (.sh w.obj), some (.sh (eT l)), some (.sh (.str x)), none, none, none] = some (.dct m) := by
      unfold xDc2
      simp only [sTups, xVar, En.sh, List.getElem?_cons_succ, List.getElem?_cons_zero, Option.bind_some, eT]
      show (cD2 _ _ _ _ _ _ _ ([some (.sh w.obj), some (.sh (.tup (l.map .str))), some (.sh (.str x)), none, none, none] : En) (l.map D.str) []).bind _ = _
      refine Option.bind_eq_some_iff.mpr ⟨m, h1, ?_⟩
      rw [if_pos hm]
      rfl
    exact congrArg (Option.map Sl.sh) this
  · have e : oMeth 0 "in_turn" F_in_turn (xVar 0) (xsC (xVar 3) (xs0)) (En.put [some (.sh w.obj), some (.sh (eT l)), some (.sh (.str x)), none, none, none] 3 (.sh (.dct m))) = F_in_turn [w.obj, .dct m] := by
      simp only [oMeth, xVar, En.sh, En.put, xsC, xs0, List.set_cons_succ, List.set_cons_zero, List.getElem?_cons_succ, List.getElem?_cons_zero, Option.bind_some, Wb.obj]
      rw [if_pos ⟨trivial, rfl⟩]
    rw [e]
    unfold Wb.obj
    rw [ex_in_turnD w w.fields m rfl]
    congr 2
    unfold Wb.reach
    refine List.filter_congr fun q hq => ?_
    rw [h3]
    simp only [dLook, Option.isSome_none, Bool.false_or, D.str.injEq]
    rw [Bool.eq_iff_iff]
    simp only [List.any_eq_true, decide_eq_true_eq]
    constructor
    · rintro ⟨p, hp, y, hy, rfl⟩
      exact ⟨p, hp, by simpa using (List.mem_filter.mp hy).2⟩
    · rintro ⟨p, hp, hq2⟩
      exact ⟨p, hp, q, List.mem_filter.mpr ⟨hq, by simpa using hq2⟩, rfl⟩
theorem get_K {sp : List (Str × Str)} {p s : Str} (h : sp.lookup p = some s) : oSub2 (eK sp) (.str p) = some (.str s) := by
  have key : ∀ sp : List (Str × Str), sp.lookup p = some s → dLook (.str p) (sp.map fun q => (D.str q.1, D.str q.2)) = some (.str s) := fun sp => by
    induction sp with
    | nil => intro h; cases h
    | cons q r ih =>
      intro h
      obtain ⟨a, b⟩ := q
      rw [List.lookup_cons] at h
      simp only [List.map_cons, dLook]
      split at h
      · next e =>
        cases h
        rw [if_pos (by rw [eq_of_beq e])]
      · next e =>
        rw [if_neg (fun q => by injection q with q; rw [q] at e; simp at e)]
        exact ih h
  simp only [oSub2, oGet, eK]
  rw [if_pos (show keyOk (.str p) = true from rfl)]
  exact key sp h
theorem eq_S {a b : Str} (ha : nameOk a) (hb : nameOk b) : oEq (.str a) (.str b) = some (.bl (decide (a = b))) := by
  unfold oEq
  rw [if_pos ⟨plain_str ha 8, plain_str hb 8⟩]
  simp
theorem ne_S {a b : Str} (ha : nameOk a) (hb : nameOk b) : oNe (.str a) (.str b) = some (.bl (!decide (a = b))) := by
  unfold oNe
  rw [if_pos ⟨plain_str ha 8, plain_str hb 8⟩]
  simp
theorem spot_is {w : Wb} (ok : w.Ok) {p s : Str} (hp : p ∈ w.places) (hs : nameOk s) : ∃ t, oSub2 (eK w.spots) (.str p) = some (.str t) ∧ oEq (.str t) (.str s) = some (.bl (decide (w.spots.lookup p = some s))) := by
  obtain ⟨t, ht, e⟩ := ok.look hp
  refine ⟨t, get_K e, ?_⟩
  rw [eq_S (ok.sn t ht) hs, e]
  simp
theorem lc_tup {a : Ex} {δ : En} {l : List Str} {i : Nat} {t : Tx} {b : Str → Bool} (h : a δ = some (eT l)) (hi : i < δ.length) (ht : ∀ p ∈ l, t ((δ.wipe [i]).put i (.sh (.str p))) = some (b p)) : xLc (sTups a) [i] (gN i) t (xVar i) δ = some (eL (l.filter b)) := by
  unfold xLc sTups
  rw [h]
  simp only [eT, Option.bind_some]
  rw [cL_map D.str b D.str _ fun p hp => ⟨_, rfl, ht p hp, fun _ => by simp [xVar, En.sh, En.put, En.wipe, hi]⟩]
  rfl
theorem ex_at_sign (w : Wb) (ok : w.Ok) (l : List Str) (s : Str) (hl : ∀ p ∈ l, p ∈ w.places) (hs : nameOk s) : F_at_sign [w.obj, eT l, .str s] = some (eT (w.at_ l s)) := by
  refine FU_is dt_at_sign rfl ⟨eT (w.at_ l s), ?_, rfl⟩
  have e1 : startE 4 [w.obj, eT l, .str s] = [some (.sh w.obj), some (.sh (eT l)), some (.sh (.str s)), none] := rfl
  rw [e1]
  have ev := lc_tup (a := xVar 1) (δ := [some (.sh w.obj), some (.sh (eT l)), some (.sh (.str s)), none]) (i := 3) (t := tB (x2 oEq (x2 oSub2 (x1 (oFldC 0 "known") (bVar 0)) (xVar 3)) (bVar 2))) (b := fun p => decide (w.spots.lookup p = some s)) (l := l) rfl (by simp) fun p hp => by
    obtain ⟨t, h1, h2⟩ := spot_is ok (hl p hp) hs
    simp only [tB, x2, x1, bVar, xVar, En.any, En.sh, En.put, En.wipe, List.set_cons_succ, List.set_cons_zero, List.getElem?_cons_succ, List.getElem?_cons_zero, Option.bind_some, obj_known, h1, h2]
  simp only [xL, xsC, xs0, Option.bind_some]
  rw [ev, Option.bind_some, Option.bind_some, tup1]
  rfl
end BP
namespace BP
open PySem
theorem le_i (a b : Int) : oLe (.int a) (.int b) = some (.bl (decide (a ≤ b))) := rfl
theorem ex_is_number (i a b : Int) (h1 : a ≤ i) (h2 : i ≤ b) : F_is_number [.int i, .int a, .int b] = some (.bl true) := by
  refine FU_is dt_is_number rfl ⟨.bl true, ?_, rfl⟩
  have e1 : startE 3 [.int i, .int a, .int b] = [some (.sh (.int i)), some (.sh (.int a)), some (.sh (.int b))] := rfl
  rw [e1]
  have t1 : oIsi "int" (.int i) = some (.bl true) := rfl
  have t2 : oIsi "bool" (.int i) = some (.bl false) := rfl
  simp [xAnd, tB, xT, tNot, x1, bVar, En.any, t1, t2, xCh, le_i, h1, h2]
theorem look_G {ss : List Str} (f : Str → Nat) {s : Str} (h : s ∈ ss) : dLook (.str s) (ss.map fun s => (D.str s, D.int (f s))) = some (.int (f s)) := by
  induction ss with
  | nil => simp at h
  | cons a r ih =>
    simp only [List.map_cons, dLook]
    by_cases e : a = s
    · subst e; rw [if_pos rfl]
    · rw [if_neg (fun q => e (by injection q))]
      exact ih ((List.mem_cons.mp h).resolve_left fun q => e q.symm)
theorem sub_G {ss : List Str} (f : Str → Nat) {s : Str} (h : s ∈ ss) : oSub2 (eG ss f) (.str s) = some (.int (f s)) := by
  simp only [oSub2, oGet, eG]
  rw [if_pos (show keyOk (.str s) = true from rfl)]
  exact look_G f h
theorem in_G {ss : List Str} (f : Str → Nat) {s : Str} (h : s ∈ ss) : oIn (.str s) (eG ss f) = some (.bl true) := by
  simp only [oIn, eG]
  rw [if_pos (show keyOk (.str s) = true from rfl), look_G f h]
  rfl
theorem len_G (ss : List Str) (f : Str → Nat) : oLen [eG ss f] = some (.int ss.length) := by simp [oLen, eG]
theorem list_G (ss : List Str) (f : Str → Nat) : oList [eG ss f] = some (eL ss) := by simp [oList, eG, eL, List.map_map, Function.comp_def]
theorem isi_G (ss : List Str) (f : Str → Nat) : oIsi "dict" (eG ss f) = some (.bl true) := rfl
theorem lc_lst {a : Ex} {δ : En} {l : List Str} {i : Nat} {f : Ex} {h : Str → D} (ha : a δ = some (eL l)) (hf : ∀ p ∈ l, f ((δ.wipe [i]).put i (.sh (.str p))) = some (h p)) : xLc (sLst a) [i] (gN i) tTrue f δ = some (.lst (l.map h)) := by
  unfold xLc sLst
  rw [ha]
  simp only [eL, Option.bind_some]
  rw [cL_all D.str h _ fun p hp => ⟨_, rfl, hf p hp⟩]
  rfl
theorem all_true {α : Type} (l : List α) : oAll [.lst (l.map fun _ => D.bl true)] = some (.bl true) := by
  rw [all_map l (fun _ => true)]
  simp
theorem ex_are_goes (ss : List Str) (f : Str → Nat) (n : Nat) (h : ∀ s ∈ ss, f s < n) : F_are_goes [eG ss f, eL ss, .int n] = some (.bl true) := by
  refine FU_is dt_are_goes rfl ?_
  have e1 : startE 5 [eG ss f, eL ss, .int n] = [some (.sh (eG ss f)), some (.sh (eL ss)), some (.sh (.int n)), none, none] := rfl
  rw [e1]
  refine ⟨false, ?_, ?_⟩
  · have ev := lc_lst (a := xVar 1) (δ := [some (.sh (eG ss f)), some (.sh (eL ss)), some (.sh (.int n)), none, none]) (i := 4) (f := x2 oIn (bVar 4) (bVar 0)) (h := fun _ => .bl true) rfl fun p hp => by simp [x2, bVar, En.any, En.put, En.wipe, in_G f hp]
    simp only [BP.tOr, tNot, tB, x1, x2, bVar, En.any, List.getElem?_cons_succ, List.getElem?_cons_zero, xL, xsC, xs0, Option.bind_some, isi_G, len_G, len_L, ne_int, Option.map_some]
    rw [ev]
    simp only [Option.bind_some, all_true, Option.map_some]
    rfl
  · rw [if_neg Bool.false_ne_true]
    refine ⟨.bl true, ?_, rfl⟩
    have ev : xLc (sDct (xVar 0) dVals) [3] (gN 3) (tTrue) (xL F_is_number (xsC (xVar 3) (xsC (xC (.int 0)) (xsC (x2 oSub (bVar 2) (xC (.int 1))) (xs0))))) [some (.sh (eG ss f)), some (.sh (eL ss)), some (.sh (.int n)), none, none] = some (.lst (ss.map fun _ => .bl true)) := by
      simp only [xLc, sDct, xVar, En.sh, List.getElem?_cons_zero, Option.bind_some, eG, dVals, List.map_map, Function.comp_def]
      rw [cL_all (fun s : Str => D.int (f s)) (fun _ => D.bl true)]
      · rfl
      · intro s hs
        refine ⟨_, rfl, ?_⟩
        have := h s hs
        have e := ex_is_number (f s) 0 (n - 1) (by omega) (by omega)
        simp [xL, xsC, xs0, xC, x2, xVar, bVar, En.put, En.wipe, En.sh, En.any, sub_i, e]
    simp only [xL, xsC, xs0, Option.bind_some]
    rw [ev]
    simp only [Option.bind_some, all_true]
theorem eqE_G {ss : List Str} (f : Str → Nat) (h : ss ≠ []) : oEqE (eG ss f) (.dct []) = some (.bl false) := by
  simp only [oEqE, eG]
  cases ss with
  | nil => exact absurd rfl h
  | cons a r => simp
theorem sub_tup0 (a b : D) : oSub2 (.tup [a, b]) (.int 0) = some a := rfl
theorem sub_tup1 (a b : D) : oSub2 (.tup [a, b]) (.int 1) = some b := rfl
theorem len_tup2 (a b : D) : oLen [.tup [a, b]] = some (.int 2) := rfl
theorem len_S (p : Pl) (ss : List Str) : oLen [p.eS ss] = some (.int p.line.length) := by simp [oLen, Pl.eS]
theorem ex_check_plan (p : Pl) (ss ls : List Str) (ok : p.Ok ss ls) (h1 : ss ≠ []) (hs : ∀ s ∈ ss, nameOk s) (hl : ∀ x ∈ ls, nameOk x) : F_check_plan (p.parts ss) = some .non := by
  refine FU_is dt_check_plan rfl ?_
  let St : Option Sl → En := fun x => [some (.sh (eG ss p.opens)), some (.sh (p.eS ss)), x, none]
  have e1 : startE 4 (p.parts ss) = St none := rfl
  rw [e1]
  have n1 := ok.n1
  have n8 := ok.n8
  refine ⟨false, ?_, ?_⟩
  · have ev : xLc (sDct (xVar 0) dKeys) [3] (gN 3) (tTrue) (xL F_is_name (xsC (xVar 3) (xs0))) (St none) = some (.lst (ss.map fun _ => .bl true)) := by
      simp only [xLc, sDct, xVar, En.sh, St, List.getElem?_cons_zero, Option.bind_some, eG, dKeys, List.map_map, Function.comp_def]
      rw [cL_all (fun s : Str => D.str s) (fun _ => D.bl true)]
      · rfl
      · intro s hs'
        exact ⟨_, rfl, by simp [xL, xsC, xs0, xVar, En.put, En.wipe, En.sh, ex_is_name s (hs s hs')]⟩
    simp only [BP.tOr, tNot, tB, x1, x2, xC, bVar, En.any, xL, xsC, xs0, Option.bind_some]
    rw [ev]
    simp only [St, List.getElem?_cons_zero, Option.bind_some, isi_G, eqE_G _ h1, all_true, Option.map_some]
    rfl
  rw [if_neg Bool.false_ne_true]
  refine ⟨false, ?_, ?_⟩
  · have i1 : oIsi "list" (p.eS ss) = some (.bl true) := rfl
    have t1 : (1 : Int) ≤ p.line.length := by omega
    have t2 : (p.line.length : Int) ≤ 1000 := by omega
    simp only [BP.tOr, tNot, tB, x1, xC, xCh, bVar, En.any, xL, xsC, xs0, St, List.getElem?_cons_succ, List.getElem?_cons_zero, Option.bind_some, i1, len_S, le_i, t1, t2, decide_true, Option.map_some]
    rfl
  rw [if_neg Bool.false_ne_true]
  have goes : ∀ (f : Str → Nat), (∀ s ∈ ss, f s < p.line.length) → F_are_goes [eG ss f, eL ss, .int p.line.length] = some (.bl true) := fun f h => ex_are_goes ss f p.line.length h
  refine ⟨false, ?_, ?_⟩
  · simp only [tNot, tB, bVar, xVar, En.any, En.sh, xL, xsC, xs0, St, List.getElem?_cons_succ, List.getElem?_cons_zero, Option.bind_some, list_G, len_S, goes p.opens ok.o, Option.map_some]
    rfl
  rw [if_neg Bool.false_ne_true]
  refine ⟨p.line.map (eSt ss), rfl, ?_⟩
  have loop : ∀ (l : List (Str × (Str → Nat))) (x : Option Sl) (C : K4), (∀ st ∈ l, st ∈ p.line) → (∀ x, C.nx (St x)) → sForL (gN 2) (sThen (sIf (BP.tOr (tNot (tB (x1 (oIsi "tuple") (bVar 2)))) (BP.tOr (tB (x2 oNe (xL oLen (xsC (bVar 2) (xs0))) (xC (.int 2)))) (tNot (tB (xL F_is_name (xsC (x2 oSub2 (bVar 2) (xC (.int 0))) (xs0))))))) (sThen (sNever) (sNext)) (sNext)) (sThen (sIf (tNot (tB (xL F_are_goes (xsC (x2 oSub2 (bVar 2) (xC (.int 1))) (xsC (xL oList (xsC (bVar 0) (xs0))) (xsC (xL oLen (xsC (bVar 1) (xs0))) (xs0))))))) (sThen (sNever) (sNext)) (sNext)) (sNext))) C (l.map (eSt ss)) (St x) := by
    intro l
    induction l with
    | nil => intro x C _ hC; exact hC x
    | cons st r ih =>
      intro x C hin hC
      obtain ⟨g1, g2⟩ := ok.g st (hin st (by simp))
      refine ⟨St (some (.sh (eSt ss st))), rfl, false, ?_, ?_⟩
      · have i1 : oIsi "tuple" (eSt ss st) = some (.bl true) := rfl
        simp only [BP.tOr, tNot, tB, x1, x2, xC, bVar, En.any, xL, xsC, xs0, St, List.getElem?_cons_succ, List.getElem?_cons_zero, Option.bind_some, i1, eSt, len_tup2, ne_int, sub_tup0, ex_is_name _ (hl _ g1), Option.map_some]
        rfl
      rw [if_neg Bool.false_ne_true]
      refine ⟨false, ?_, ?_⟩
      · simp only [tNot, tB, x2, xC, bVar, En.any, xL, xsC, xs0, St, List.getElem?_cons_succ, List.getElem?_cons_zero, Option.bind_some, eSt, sub_tup1, list_G, len_S, goes _ g2, Option.map_some]
        rfl
      rw [if_neg Bool.false_ne_true]
      exact ih (some (.sh (eSt ss st))) C (fun s hs => hin s (by simp [hs])) hC
  exact loop p.line none _ (fun _ h => h) fun x => rfl
theorem strsOf_G (ss : List Str) (f : Str → Nat) : strsOf ((ss.map fun s => (D.str s, D.int (f s))).map (·.1)) = some ss := by
  have := map_strsOf ss
  simpa [List.map_map, Function.comp_def] using this
theorem sortD_G {ss : List Str} (f : Str → Nat) (h : sortT ss = ss) (hl : ss.length ≤ 6) : oSortD (eG ss f) = some (eL ss) := by
  simp only [oSortD, eG, strsOf_G, Option.bind_some]
  rw [if_pos (by omega), h]
  rfl
theorem cDc_all {α : Type} {g : Gx} {fk fv : Ex} {δ : En} (e : α → D) (kk vv : α → D) : ∀ (l : List α) (m : List (D × D)), (∀ x ∈ l, ∃ δ', g (e x) δ = some δ' ∧ fk δ' = some (kk x) ∧ fv δ' = some (vv x) ∧ keyOk (kk x) = true) → (m.map (·.1) ++ l.map kk).Nodup → cDc g tTrue fk fv δ (l.map e) m = some (m ++ l.map fun x => (kk x, vv x))
  | [], m, _, _ => by simp [cDc]
  | x :: r, m, h, nd => by
    obtain ⟨δ', h1, h2, h3, h4⟩ := h x (by simp)
    simp only [List.map_cons, cDc, h1, tTrue, h2, h3, Option.bind_some, if_pos, h4]
    rw [dPut_new (kk x) (vv x) m fun p hp ee => ?_]
    · have := cDc_all e kk vv r (m ++ [(kk x, vv x)]) (fun y hy => h y (by simp [hy])) (by simpa using nd)
      rw [this]
      simp
    · rw [List.nodup_append] at nd
      exact nd.2.2 p.1 (List.mem_map.mpr ⟨p, hp, rfl⟩) (kk x) (by simp) ee
/-- {sign: g[sign] for sign in sorted(g)} -/
theorem copy_G {ss : List Str} (f : Str → Nat) (h : sortT ss = ss) (hl : ss.length ≤ 6) (nd : ss.Nodup) {δ : En} {i j : Nat} (hj : δ.any j = some (eG ss f)) (hij : i ≠ j) (hi : i < δ.length) : xDc (sLst (x1 oSortD (bVar j))) [i] (gN i) (tTrue) (xVar i) (x2 oSub2 (bVar j) (xVar i)) δ = some (eG ss f) := by
  unfold xDc sLst x1 bVar
  rw [hj]
  simp only [Option.bind_some, sortD_G f h hl, eL]
  rw [if_pos (most_ge (by rw [List.length_map]; omega)), cDc_all D.str D.str (fun s => D.int (f s)) ss [] (fun s hs => ⟨_, rfl, ?_, ?_, rfl⟩) (by simpa using str_nodup nd)]
  · rfl
  · simp [xVar, En.sh, En.put, En.wipe, hi]
  · have a1 : ((δ.wipe [i]).put i (.sh (.str s))).any j = some (eG ss f) := by
      unfold En.any at hj ⊢
      simp only [En.put, En.wipe, List.getElem?_set_ne hij]
      exact hj
    have a2 : ((δ.wipe [i]).put i (.sh (.str s))).sh i = some (.str s) := by simp [En.sh, En.put, En.wipe, hi]
    simp only [x2, xVar, a1, a2, Option.bind_some, sub_G f hs]
theorem ex_initP (p : Pl) (ss ls : List Str) (ok : p.Ok ss ls) (h1 : ss ≠ []) (hs : ∀ s ∈ ss, nameOk s) (hl : ∀ x ∈ ls, nameOk x) (so : sortT ss = ss) (nd : ss.Nodup) (h6 : ss.length ≤ 6) : I_Plan (p.parts ss) = some (p.fields ss) := by
  refine IU_is dt_initP rfl fun a => ?_
  have e1 : startO 6 a 1 (p.parts ss) = [some (.oo a 1 []), some (.sh (eG ss p.opens)), some (.sh (p.eS ss)), none, none, none] := rfl
  rw [e1]
  have hc : F_check_plan [eG ss p.opens, p.eS ss] = some .non := ex_check_plan p ss ls ok h1 hs hl
  refine ⟨.non, ?_, a, [], eG ss p.opens, rfl, ?_, by decide, a, [("opens", eG ss p.opens)], p.eS ss, rfl, ?_, by simp, rfl⟩
  · simp only [xL, xsC, xs0, xVar, En.sh, List.getElem?_cons_succ, List.getElem?_cons_zero, Option.bind_some, hc]
  · exact copy_G p.opens so h6 nd (i := 3) (j := 1) rfl (by decide) (by simp)
  · show xLc _ _ _ _ _ [some (.oo a 1 [("opens", eG ss p.opens)]), some (.sh (eG ss p.opens)), some (.sh (p.eS ss)), none, none, none] = _
    unfold xLc
    simp only [sLst, xVar, En.sh, List.getElem?_cons_succ, List.getElem?_cons_zero, Option.bind_some, Pl.eS]
    rw [cL_all (eSt ss) (eSt ss)]
    · rfl
    · intro st _
      refine ⟨_, rfl, ?_⟩
      have cp := copy_G st.2 so h6 nd (δ := [some (.oo a 1 [("opens", eG ss p.opens)]), some (.sh (eG ss p.opens)), some (.sh (p.eS ss)), none, some (.sh (.str st.1)), some (.sh (eG ss st.2))]) (i := 3) (j := 5) rfl (by decide) (by simp)
      have cp' : xDc (sLst (x1 oSortD (bVar 5))) [3] (gN 3) (tTrue) (xVar 3) (x2 oSub2 (bVar 5) (xVar 3)) (En.put (En.put (En.wipe [some (.oo a 1 [("opens", eG ss p.opens)]), some (.sh (eG ss p.opens)), some (.sh (p.eS ss)), none, none, none] [4, 5]) 4 (.sh (.str st.1))) 5 (.sh (eG ss st.2))) = some (eG ss st.2) := cp
      simp only [xL, xsC, xs0, Option.bind_some]
      show ((xVar 4 _).bind fun x => ((xDc _ _ _ _ _ _ (En.put (En.put (En.wipe [some (.oo a 1 [("opens", eG ss p.opens)]), some (.sh (eG ss p.opens)), some (.sh (p.eS ss)), none, none, none] [4, 5]) 4 (.sh (.str st.1))) 5 (.sh (eG ss st.2)))).bind fun x => some [x]).bind fun y => some (x :: y)).bind oTup = _
      rw [cp']
      simp only [Option.bind_some, xVar, En.sh, En.put, En.wipe, List.set_cons_succ, List.set_cons_zero, List.getElem?_cons_succ, List.getElem?_cons_zero, tup2]
      rfl
theorem obj_opens (p : Pl) (ss : List Str) : oFldC 1 "opens" (p.obj ss) = some (eG ss p.opens) := rfl
theorem obj_line (p : Pl) (ss : List Str) : oFldC 1 "line" (p.obj ss) = some (p.eS ss) := rfl
theorem ex_fits (w : Wb) (wk : w.Ok) (p : Pl) (ok : p.Ok w.signs w.letters) : F_fits [p.obj w.signs, w.obj] = some (.bl true) := by
  refine FU_is dt_fits rfl ⟨.bl true, ?_, rfl⟩
  have e1 : startE 4 [p.obj w.signs, w.obj] = [some (.sh (p.obj w.signs)), some (.sh w.obj), none, none] := rfl
  rw [e1]
  have es : oMeth0 0 "signs" F_signs (xVar 1) [some (.sh (p.obj w.signs)), some (.sh w.obj), none, none] = some (eL w.signs) := by
    simp only [oMeth0, xVar, En.sh, List.getElem?_cons_succ, List.getElem?_cons_zero, Option.bind_some, Wb.obj]
    rw [if_pos ⟨trivial, rfl⟩]
    exact ex_signs w wk w.fields rfl
  have ev : xLc (sLst (x1 (oFldC 1 "line") (bVar 0))) [2, 3] (gT (gsC (gN 2) (gsC (gN 3) (gs0)))) (tTrue) (x2 oIn (bVar 2) (x1 (oFldC 0 "moves") (bVar 1))) [some (.sh (p.obj w.signs)), some (.sh w.obj), none, none] = some (.lst (p.line.map fun _ => .bl true)) := by
    unfold xLc
    simp only [sLst, x1, bVar, En.any, List.getElem?_cons_succ, List.getElem?_cons_zero, Option.bind_some, obj_line, Pl.eS]
    rw [cL_all (eSt w.signs) (fun _ => D.bl true)]
    · rfl
    · intro st hst
      refine ⟨_, rfl, ?_⟩
      simp only [x2, x1, bVar, En.any, En.put, En.wipe, List.set_cons_succ, List.set_cons_zero, List.getElem?_cons_succ, List.getElem?_cons_zero, Option.bind_some, obj_moves, in_L, decide_eq_true (ok.g st hst).1]
  simp only [xAnd, tB, x2, xL, xsC, xs0, es, ev]
  simp only [x1, bVar, En.any, List.getElem?_cons_zero, Option.bind_some, obj_opens, list_G, eq_L wk.sn wk.sn, decide_true, all_true, if_pos]
theorem ex_check_fits (w : Wb) (wk : w.Ok) (p : Pl) (ok : p.Ok w.signs w.letters) : F_check_fits [w.obj, p.obj w.signs] = some .non := by
  refine FU_is dt_check_fits rfl ?_
  have e1 : startE 2 [w.obj, p.obj w.signs] = [some (.sh w.obj), some (.sh (p.obj w.signs))] := rfl
  rw [e1]
  have es : oMeth 1 "fits" F_fits (xVar 1) (xsC (xVar 0) (xs0)) [some (.sh w.obj), some (.sh (p.obj w.signs))] = some (.bl true) := by
    have := ex_fits w wk p ok
    simp only [oMeth, xVar, En.sh, xsC, xs0, List.getElem?_cons_succ, List.getElem?_cons_zero, Option.bind_some, Pl.obj]
    rw [if_pos ⟨trivial, rfl⟩]
    exact this
  refine ⟨false, ?_, rfl⟩
  simp only [BP.tOr, tNot, tB, es]
  rfl
end BP
namespace BP
open PySem
def ltS (x y : Str) : Prop := x.cps.toList < y.cps.toList
theorem ltS_irrefl (x : Str) : ¬ ltS x x := List.lt_irrefl _
theorem ltS_trans {x y z : Str} (a : ltS x y) (b : ltS y z) : ltS x z := List.lt_trans a b
def lexS : List Str → List Str → Prop
  | a :: r, b :: t => ltS a b ∨ (a = b ∧ lexS r t)
  | _, _ => False
theorem lexS_irrefl : ∀ r : List Str, ¬ lexS r r
  | [], h => h
  | a :: r, h => h.elim (ltS_irrefl a) fun h => lexS_irrefl r h.2
theorem lexS_trans : ∀ {r t u : List Str}, lexS r t → lexS t u → lexS r u
  | [], _, _, h, _ => h.elim
  | _ :: _, [], _, h, _ => h.elim
  | _ :: _, _ :: _, [], _, h => h.elim
  | a :: r, b :: t, c :: u, h, h' => by
    rcases h with h | ⟨rfl, h⟩
    · rcases h' with h' | ⟨rfl, h'⟩
      · exact .inl (ltS_trans h h')
      · exact .inl h
    · rcases h' with h' | ⟨rfl, h'⟩
      · exact .inl h'
      · exact .inr ⟨rfl, lexS_trans h h'⟩
theorem lexS_app : ∀ {r t : List Str} (u v : List Str), lexS r t → lexS (r ++ u) (t ++ v)
  | [], _, _, _, h => h.elim
  | _ :: _, [], _, _, h => h.elim
  | a :: r, b :: t, u, v, h => by
    rcases h with h | ⟨rfl, h⟩
    · exact .inl h
    · exact .inr ⟨rfl, lexS_app u v h⟩
theorem lexS_last {a b : Str} (h : ltS a b) : ∀ r : List Str, lexS (r ++ [a]) (r ++ [b])
  | [] => .inl h
  | x :: r => .inr ⟨rfl, lexS_last h r⟩
def rlt (r t : List Str) : Prop := r.length < t.length ∨ (r.length = t.length ∧ lexS r t)
def rle (r t : List Str) : Prop := r = t ∨ rlt r t
theorem rlt_irrefl (r : List Str) : ¬ rlt r r := fun h => h.elim (Nat.lt_irrefl _) fun h => lexS_irrefl r h.2
theorem rlt_trans {r t u : List Str} (a : rlt r t) (b : rlt t u) : rlt r u := by
  rcases a with a | ⟨a, x⟩
  · rcases b with b | ⟨b, y⟩
    · exact .inl (by omega)
    · exact .inl (by omega)
  · rcases b with b | ⟨b, y⟩
    · exact .inl (by omega)
    · exact .inr ⟨by omega, lexS_trans x y⟩
theorem rle_refl (r : List Str) : rle r r := .inl rfl
theorem rle_trans {r t u : List Str} (a : rle r t) (b : rle t u) : rle r u := by
  rcases a with rfl | a
  · exact b
  · rcases b with rfl | b
    · exact .inr a
    · exact .inr (rlt_trans a b)
theorem rle_anti {r t : List Str} (a : rle r t) (b : rle t r) : r = t := by
  rcases a with a | a
  · exact a
  · rcases b with b | b
    · exact b.symm
    · exact absurd (rlt_trans a b) (rlt_irrefl _)
theorem rlt_le {r t u : List Str} (a : rlt r t) (b : rle t u) : rlt r u := by
  rcases b with rfl | b
  · exact a
  · exact rlt_trans a b
theorem rle_lt {r t u : List Str} (a : rle r t) (b : rlt t u) : rlt r u := by
  rcases a with rfl | a
  · exact b
  · exact rlt_trans a b
theorem rlt_app {r t : List Str} (a b : Str) (h : rlt r t) : rlt (r ++ [a]) (t ++ [b]) := by
  rcases h with h | ⟨h, x⟩
  · exact .inl (by simpa using h)
  · exact .inr ⟨by simpa using h, lexS_app _ _ x⟩
theorem rle_app {r t : List Str} (a : Str) (h : rle r t) : rle (r ++ [a]) (t ++ [a]) := by
  rcases h with rfl | h
  · exact .inl rfl
  · exact .inr (rlt_app a a h)
theorem rlt_last {a b : Str} (h : ltS a b) (r : List Str) : rlt (r ++ [a]) (r ++ [b]) := .inr ⟨by simp, lexS_last h r⟩
theorem rlt_more (r : List Str) (a : Str) (t : List Str) : rlt r (r ++ a :: t) := .inl (by simp)
theorem rle_more (r t : List Str) : rle r (r ++ t) := by
  cases t with
  | nil => exact .inl (by simp)
  | cons a t => exact .inr (rlt_more r a t)
theorem rlt_step {r t : List Str} (a b : Str) (u : List Str) (h : rlt r t) : rlt (r ++ [a]) (t ++ b :: u) := by
  have := rlt_le (rlt_app a b h) (rle_more _ u)
  simpa using this
section
variable {C : Type} {start : List (Str × C)} {kids : C → List (Str × C)} {tell : C → Bool}
inductive Rch (start : List (Str × C)) (kids : C → List (Str × C)) (tell : C → Bool) : List Str → C → Prop
  | one {k : Str × C} (h : k ∈ start) : Rch start kids tell [k.1] k.2
  | more {r : List Str} {c : C} {k : Str × C} (h : Rch start kids tell r c) (n : tell c = false) (hk : k ∈ kids c) : Rch start kids tell (r ++ [k.1]) k.2
/-- what is to be found -/
def Least (start : List (Str × C)) (kids : C → List (Str × C)) (tell : C → Bool) : Option (List Str) → Prop
  | none => ∀ r c, Rch start kids tell r c → tell c = false
  | some r => (∃ c, Rch start kids tell r c ∧ tell c = true) ∧ ∀ u c, Rch start kids tell u c → tell c = true → rle r u
theorem Least.uniq {o o' : Option (List Str)} (h : Least start kids tell o) (h' : Least start kids tell o') : o = o' := by
  cases o with
  | none =>
    cases o' with
    | none => rfl
    | some r =>
      obtain ⟨⟨c, h1, h2⟩, _⟩ := h'
      rw [h r c h1] at h2; cases h2
  | some r =>
    obtain ⟨⟨c, h1, h2⟩, h3⟩ := h
    cases o' with
    | none => rw [h' r c h1] at h2; cases h2
    | some t =>
      obtain ⟨⟨c', h4, h5⟩, h6⟩ := h'
      rw [rle_anti (h3 t c' h4 h5) (h6 r c h1 h2)]
/-- labels that rise -/
def Up (l : List (Str × C)) : Prop := l.Pairwise fun a b => ltS a.1 b.1
structure Bf (start : List (Str × C)) (kids : C → List (Str × C)) (tell : C → Bool) (Q E : List (List Str × C)) : Prop where
  a : ∀ e ∈ Q, Rch start kids tell e.1 e.2
  b : ∀ e ∈ E, tell e.2 = false
  s : ∀ k ∈ start, ∃ v, rle v [k.1] ∧ ((v, k.2) ∈ E ∨ (v, k.2) ∈ Q)
  d : ∀ e ∈ E, ∀ k ∈ kids e.2, ∃ v, rle v (e.1 ++ [k.1]) ∧ ((v, k.2) ∈ E ∨ (v, k.2) ∈ Q)
  f : ∀ e ∈ E, ∀ q ∈ Q, rlt e.1 q.1
  so : Q.Pairwise fun x y => rlt x.1 y.1
  g : ∀ v ∈ Q, ∀ r ∈ Q, ∀ x, rlt v.1 (r.1 ++ [x])
theorem Bf.cover {Q E : List (List Str × C)} (B : Bf start kids tell Q E) {u : List Str} {c : C} (h : Rch start kids tell u c) : (∃ v, rle v u ∧ (v, c) ∈ E) ∨ ∃ q ∈ Q, ∃ u1 t, u = u1 ++ t ∧ rle q.1 u1 := by
  induction h with
  | @one k hk =>
    obtain ⟨v, h1, h2 | h2⟩ := B.s k hk
    · exact .inl ⟨v, h1, h2⟩
    · exact .inr ⟨_, h2, [k.1], [], by simp, h1⟩
  | @more r c k h n hk ih =>
    rcases ih with ⟨v, h1, h2⟩ | ⟨q, h1, u1, t, rfl, h2⟩
    · obtain ⟨v', h3, h4 | h4⟩ := B.d _ h2 k hk
      · exact .inl ⟨v', rle_trans h3 (rle_app _ h1), h4⟩
      · exact .inr ⟨_, h4, r ++ [k.1], [], by simp, rle_trans h3 (rle_app _ h1)⟩
    · exact .inr ⟨q, h1, u1, t ++ [k.1], by simp, h2⟩
theorem Bf.tells {Q E : List (List Str × C)} {r : List Str} {c : C} (B : Bf start kids tell ((r, c) :: Q) E) (h : tell c = true) : Least start kids tell (some r) := by
  refine ⟨⟨c, B.a (r, c) List.mem_cons_self, h⟩, fun u c' h1 h2 => ?_⟩
  rcases B.cover h1 with ⟨v, _, h3⟩ | ⟨q, h3, u1, t, rfl, h4⟩
  · rw [B.b _ h3] at h2; cases h2
  · refine rle_trans ?_ (rle_trans h4 (rle_more u1 t))
    rcases List.mem_cons.mp h3 with rfl | h3
    · exact rle_refl _
    · exact .inr ((List.pairwise_cons.mp B.so).1 q h3)
theorem Bf.ends {E : List (List Str × C)} (B : Bf start kids tell [] E) : Least start kids tell none := fun r c h => by
  rcases B.cover h with ⟨v, _, h3⟩ | ⟨q, h3, _⟩
  · exact B.b _ h3
  · simp at h3
theorem Bf.skip {Q E : List (List Str × C)} {r : List Str} {c : C} (B : Bf start kids tell ((r, c) :: Q) E) (h : ∃ v, (v, c) ∈ E) : Bf start kids tell Q E := by
  obtain ⟨v0, h0⟩ := h
  have mv : ∀ {u : List Str} {x : C}, (∃ v, rle v u ∧ ((v, x) ∈ E ∨ (v, x) ∈ (r, c) :: Q)) → ∃ v, rle v u ∧ ((v, x) ∈ E ∨ (v, x) ∈ Q) := fun {u x} ⟨v, h1, h2⟩ => by
    rcases h2 with h2 | h2
    · exact ⟨v, h1, .inl h2⟩
    · rcases List.mem_cons.mp h2 with e | h2
      · cases e
        exact ⟨v0, rle_trans (.inr (B.f _ h0 (r, c) List.mem_cons_self)) h1, .inl h0⟩
      · exact ⟨v, h1, .inr h2⟩
  exact ⟨fun e he => B.a e (by simp [he]), B.b, fun k hk => mv (B.s k hk), fun e he k hk => mv (B.d e he k hk), fun e he q hq => B.f e he q (by simp [hq]), (List.pairwise_cons.mp B.so).2, fun v hv r hr x => B.g v (by simp [hv]) r (by simp [hr]) x⟩
theorem up_rows {r : List Str} : ∀ {l : List (Str × C)}, Up l → (l.map fun k => (r ++ [k.1], k.2)).Pairwise fun x y => rlt x.1 y.1 := fun {l} h => List.Pairwise.map _ (fun a b hab => rlt_last hab r) h
theorem Bf.step {Q E : List (List Str × C)} {r : List Str} {c : C} (B : Bf start kids tell ((r, c) :: Q) E) (h : tell c = false) (hu : Up (kids c)) : Bf start kids tell (Q ++ (kids c).map fun k => (r ++ [k.1], k.2)) ((r, c) :: E) := by
  have mv : ∀ {u : List Str} {x : C}, (∃ v, rle v u ∧ ((v, x) ∈ E ∨ (v, x) ∈ (r, c) :: Q)) → ∃ v, rle v u ∧ ((v, x) ∈ (r, c) :: E ∨ (v, x) ∈ Q ++ (kids c).map fun k => (r ++ [k.1], k.2)) := fun {u x} ⟨v, h1, h2⟩ => by
    rcases h2 with h2 | h2
    · exact ⟨v, h1, .inl (by simp [h2])⟩
    · rcases List.mem_cons.mp h2 with e | h2
      · cases e
        exact ⟨r, h1, .inl List.mem_cons_self⟩
      · exact ⟨v, h1, .inr (by simp [h2])⟩
  have lt0 : ∀ q ∈ Q, rlt r q.1 := (List.pairwise_cons.mp B.so).1
  have nk : ∀ q ∈ (kids c).map (fun k => (r ++ [k.1], k.2)), ∃ k ∈ kids c, q = (r ++ [k.1], k.2) := fun q hq => by
    obtain ⟨k, hk, e⟩ := List.mem_map.mp hq
    exact ⟨k, hk, e.symm⟩
  refine ⟨fun e he => ?_, fun e he => ?_, fun k hk => mv (B.s k hk), fun e he k hk => ?_, fun e he q hq => ?_, ?_, fun v hv q hq x => ?_⟩
  · rcases List.mem_append.mp he with he | he
    · exact B.a e (by simp [he])
    · obtain ⟨k, hk, rfl⟩ := nk e he
      exact .more (B.a (r, c) List.mem_cons_self) h hk
  · rcases List.mem_cons.mp he with rfl | he
    · exact h
    · exact B.b e he
  · rcases List.mem_cons.mp he with rfl | he
    · exact ⟨r ++ [k.1], rle_refl _, .inr (List.mem_append_right _ (List.mem_map.mpr ⟨k, hk, rfl⟩))⟩
    · exact mv (B.d e he k hk)
  · have up : rlt e.1 r ∨ e.1 = r := by
      rcases List.mem_cons.mp he with rfl | he
      · exact .inr rfl
      · exact .inl (B.f e he (r, c) List.mem_cons_self)
    rcases List.mem_append.mp hq with hq | hq
    · rcases up with u | u
      · exact rlt_trans u (lt0 q hq)
      · rw [u]; exact lt0 q hq
    · obtain ⟨k, hk, rfl⟩ := nk q hq
      rcases up with u | u
      · exact rlt_trans u (rlt_more r k.1 [])
      · rw [u]; exact rlt_more r k.1 []
  · refine List.pairwise_append.mpr ⟨(List.pairwise_cons.mp B.so).2, up_rows hu, fun x hx y hy => ?_⟩
    obtain ⟨k, hk, rfl⟩ := nk y hy
    exact B.g x (by simp [hx]) (r, c) (by simp) k.1
  · rcases List.mem_append.mp hv with hv | hv
    · rcases List.mem_append.mp hq with hq | hq
      · exact B.g v (by simp [hv]) q (by simp [hq]) x
      · obtain ⟨k, hk, rfl⟩ := nk q hq
        exact rlt_trans (B.g v (by simp [hv]) (r, c) (by simp) k.1) (rlt_more _ x [])
    · obtain ⟨k, hk, rfl⟩ := nk v hv
      rcases List.mem_append.mp hq with hq | hq
      · exact rlt_app _ _ (lt0 q hq)
      · obtain ⟨k', hk', rfl⟩ := nk q hq
        exact .inl (by simp)
theorem Bf.init (hu : Up start) : Bf start kids tell (start.map fun k => ([k.1], k.2)) [] := by
  have nk : ∀ q ∈ start.map (fun k => ([k.1], k.2)), ∃ k ∈ start, q = ([k.1], k.2) := fun q hq => by
    obtain ⟨k, hk, e⟩ := List.mem_map.mp hq
    exact ⟨k, hk, e.symm⟩
  refine ⟨fun e he => ?_, by simp, fun k hk => ⟨[k.1], rle_refl _, .inr (List.mem_map.mpr ⟨k, hk, rfl⟩)⟩, by simp, by simp, up_rows (r := []) hu, fun v hv q hq x => ?_⟩
  · obtain ⟨k, hk, rfl⟩ := nk e he
    exact .one hk
  · obtain ⟨k, hk, rfl⟩ := nk v hv
    obtain ⟨k', hk', rfl⟩ := nk q hq
    exact .inl (by simp)
end
section
variable {C K : Type} {kk : K → List (Str × C)} {key : C → K} {root : K} {tell : C → Bool}
abbrev RchK (kk : K → List (Str × C)) (key : C → K) (root : K) (tell : C → Bool) := Rch (kk root) (fun c => kk (key c)) tell
structure Cov (kk : K → List (Str × C)) (key : C → K) (root : K) (tell : C → Bool) (Q E : List (List Str × K)) : Prop where
  s : ([], root) ∈ E ∨ ([], root) ∈ Q
  d : ∀ e ∈ E, ∀ k ∈ kk e.2, tell k.2 = false ∧ ∃ v, rle v (e.1 ++ [k.1]) ∧ ((v, key k.2) ∈ E ∨ (v, key k.2) ∈ Q)
theorem Cov.cover {Q E : List (List Str × K)} (B : Cov kk key root tell Q E) {u : List Str} {c : C} (h : RchK kk key root tell u c) : (tell c = false ∧ ∃ v, rle v u ∧ ((v, key c) ∈ E ∨ (v, key c) ∈ Q)) ∨ ∃ q ∈ Q, ∃ u1 s t c1, u = u1 ++ s :: t ∧ rle q.1 u1 ∧ (s, c1) ∈ kk q.2 ∧ (t = [] → c1 = c) := by
  induction h with
  | @one k hk =>
    rcases B.s with h | h
    · obtain ⟨h1, v, h2, h3⟩ := B.d _ h k hk
      exact .inl ⟨h1, v, h2, h3⟩
    · exact .inr ⟨_, h, [], k.1, [], k.2, by simp, rle_refl _, hk, fun _ => rfl⟩
  | @more r c k h n hk ih =>
    rcases ih with ⟨_, v, h1, h2⟩ | ⟨q, h1, u1, s, t, c1, rfl, h2, h3, h4⟩
    · rcases h2 with h2 | h2
      · obtain ⟨h3, v', h4, h5⟩ := B.d _ h2 k hk
        exact .inl ⟨h3, v', rle_trans h4 (rle_app _ h1), h5⟩
      · exact .inr ⟨_, h2, r, k.1, [], k.2, rfl, h1, hk, fun _ => rfl⟩
    · exact .inr ⟨q, h1, u1, s, t ++ [k.1], c1, by simp, h2, h3, fun e => by simp at e⟩
structure Bl (kk : K → List (Str × C)) (key : C → K) (root : K) (tell : C → Bool) (Q E : List (List Str × K)) : Prop where
  c : Cov kk key root tell Q E
  a : ∀ e ∈ Q, e = ([], root) ∨ ∃ c, RchK kk key root tell e.1 c ∧ tell c = false ∧ key c = e.2
  f : ∀ e ∈ E, ∀ q ∈ Q, rlt e.1 q.1
  so : Q.Pairwise fun x y => rlt x.1 y.1
  g : ∀ v ∈ Q, ∀ r ∈ Q, ∀ x, rlt v.1 (r.1 ++ [x])
theorem Bl.ends {E : List (List Str × K)} (B : Bl kk key root tell [] E) : Least (kk root) (fun c => kk (key c)) tell none := fun r c h => by
  rcases B.c.cover h with ⟨h, _⟩ | ⟨q, h, _⟩
  · exact h
  · simp at h
theorem Bl.init : Bl kk key root tell [([], root)] [] := by
  refine ⟨⟨.inr (by simp), by simp⟩, fun e he => .inl (by simpa using he), by simp, by simp, fun v hv r hr x => ?_⟩
  simp only [List.mem_singleton] at hv hr
  subst hv hr
  exact .inl (by simp)
/-- within a turn: the signs that are done, those to come -/
structure In (kk : K → List (Str × C)) (key : C → K) (root : K) (tell : C → Bool) (r : List Str) (x : K) (don todo : List (Str × C)) (Q E : List (List Str × K)) : Prop where
  all : kk x = don ++ todo
  c : Cov kk key root tell ((r, x) :: Q) E
  dn : ∀ k ∈ don, tell k.2 = false ∧ ∃ v, rle v (r ++ [k.1]) ∧ ((v, key k.2) ∈ (r, x) :: E ∨ (v, key k.2) ∈ Q)
  a0 : (r, x) = ([], root) ∨ ∃ c, RchK kk key root tell r c ∧ tell c = false ∧ key c = x
  a : ∀ e ∈ Q, e = ([], root) ∨ ∃ c, RchK kk key root tell e.1 c ∧ tell c = false ∧ key c = e.2
  f : ∀ e ∈ E, rlt e.1 r
  fr : ∀ q ∈ Q, rlt r q.1
  so : Q.Pairwise fun x y => rlt x.1 y.1
  g : ∀ v ∈ Q, ∀ r ∈ Q, ∀ x, rlt v.1 (r.1 ++ [x])
  gr : ∀ v ∈ Q, ∀ k ∈ todo, rlt v.1 (r ++ [k.1])
  up : Up todo
theorem Bl.enter {r : List Str} {x : K} {Q E : List (List Str × K)} (B : Bl kk key root tell ((r, x) :: Q) E) (hu : Up (kk x)) : In kk key root tell r x [] (kk x) Q E :=
  ⟨rfl, B.c, by simp, B.a (r, x) List.mem_cons_self, fun e he => B.a e (by simp [he]), fun e he => B.f e he (r, x) List.mem_cons_self, (List.pairwise_cons.mp B.so).1, (List.pairwise_cons.mp B.so).2, fun v hv q hq y => B.g v (by simp [hv]) q (by simp [hq]) y, fun v hv k _ => B.g v (by simp [hv]) (r, x) (by simp) k.1, hu⟩
theorem In.rch {r : List Str} {x : K} {don todo : List (Str × C)} {Q E : List (List Str × K)} (I : In kk key root tell r x don todo Q E) {k : Str × C} (hk : k ∈ todo) : RchK kk key root tell (r ++ [k.1]) k.2 := by
  have hx : k ∈ kk x := by rw [I.all]; exact List.mem_append_right _ hk
  rcases I.a0 with e | ⟨c, h1, h2, h3⟩
  · cases e
    exact .one hx
  · subst h3
    exact .more h1 h2 hx
theorem In.tells {r : List Str} {x : K} {don todo : List (Str × C)} {k : Str × C} {Q E : List (List Str × K)} (I : In kk key root tell r x don (k :: todo) Q E) (h : tell k.2 = true) : Least (kk root) (fun c => kk (key c)) tell (some (r ++ [k.1])) := by
  refine ⟨⟨k.2, I.rch List.mem_cons_self, h⟩, fun u c h1 h2 => ?_⟩
  rcases I.c.cover h1 with ⟨h3, _⟩ | ⟨q, h3, u1, s, t, c1, rfl, h4, h5, h6⟩
  · rw [h3] at h2; cases h2
  · rcases List.mem_cons.mp h3 with rfl | h3
    · rcases h4 with rfl | h4
      · have hm := h5
        rw [I.all] at hm
        rcases List.mem_append.mp hm with hm | hm
        · cases t with
          | nil =>
            rw [← h6 rfl, (I.dn _ hm).1] at h2; cases h2
          | cons b t => exact .inr (.inl (by simp))
        · rcases List.mem_cons.mp hm with e | hm
          · rw [← e]
            have := rle_more (r ++ [s]) t
            simpa using this
          · have := rlt_last ((List.pairwise_cons.mp I.up).1 _ hm) r
            have := rlt_le this (rle_more (r ++ [s]) t)
            exact .inr (by simpa using this)
      · exact .inr (rlt_step _ _ _ h4)
    · exact .inr (rlt_step _ _ _ (rlt_le (I.fr q h3) h4))
theorem In.known {r : List Str} {x : K} {don todo : List (Str × C)} {k : Str × C} {Q E : List (List Str × K)} (I : In kk key root tell r x don (k :: todo) Q E) (h : tell k.2 = false) (hk : ∃ v, (v, key k.2) ∈ (r, x) :: E ∨ (v, key k.2) ∈ Q) : In kk key root tell r x (don ++ [k]) todo Q E := by
  refine ⟨by rw [I.all]; simp, I.c, fun j hj => ?_, I.a0, I.a, I.f, I.fr, I.so, I.g, fun v hv j hj => I.gr v hv j (by simp [hj]), (List.pairwise_cons.mp I.up).2⟩
  rcases List.mem_append.mp hj with hj | hj
  · exact I.dn j hj
  · simp only [List.mem_singleton] at hj
    obtain ⟨v, hv⟩ := hk
    rw [hj]
    refine ⟨h, v, ?_, hv⟩
    rcases hv with hv | hv
    · rcases List.mem_cons.mp hv with e | hv
      · cases e; exact rle_more _ _
      · exact .inr (rlt_trans (I.f _ hv) (rlt_more r _ []))
    · exact .inr (I.gr _ hv k List.mem_cons_self)
theorem In.fresh {r : List Str} {x : K} {don todo : List (Str × C)} {k : Str × C} {Q E : List (List Str × K)} (I : In kk key root tell r x don (k :: todo) Q E) (h : tell k.2 = false) : In kk key root tell r x (don ++ [k]) todo (Q ++ [(r ++ [k.1], key k.2)]) E := by
  have more : ∀ {v : List Str} {y : K} {P : List (List Str × K)}, ((v, y) ∈ P ∨ (v, y) ∈ Q) → ((v, y) ∈ P ∨ (v, y) ∈ Q ++ [(r ++ [k.1], key k.2)]) := fun h => h.imp id fun h => List.mem_append_left _ h
  have one : ∀ q ∈ Q ++ [(r ++ [k.1], key k.2)], q ∈ Q ∨ q = (r ++ [k.1], key k.2) := fun q hq => by
    rcases List.mem_append.mp hq with hq | hq
    · exact .inl hq
    · exact .inr (by simpa using hq)
  refine ⟨by rw [I.all]; simp, ⟨I.c.s.imp id fun h => ?_, fun e he j hj => ?_⟩, fun j hj => ?_, I.a0, fun e he => ?_, I.f, fun q hq => ?_, ?_, fun v hv q hq y => ?_, fun v hv j hj => ?_, (List.pairwise_cons.mp I.up).2⟩
  · rcases List.mem_cons.mp h with e | h
    · rw [e]; simp
    · exact List.mem_cons_of_mem _ (List.mem_append_left _ h)
  · obtain ⟨h1, v, h2, h3⟩ := I.c.d e he j hj
    refine ⟨h1, v, h2, h3.imp id fun h => ?_⟩
    rcases List.mem_cons.mp h with e | h
    · rw [e]; simp
    · exact List.mem_cons_of_mem _ (List.mem_append_left _ h)
  · rcases List.mem_append.mp hj with hj | hj
    · obtain ⟨h1, v, h2, h3⟩ := I.dn j hj
      exact ⟨h1, v, h2, more h3⟩
    · simp only [List.mem_singleton] at hj
      subst hj
      exact ⟨h, r ++ [j.1], rle_refl _, .inr (by simp)⟩
  · rcases one e he with he | rfl
    · exact I.a e he
    · exact .inr ⟨k.2, I.rch List.mem_cons_self, h, rfl⟩
  · rcases one q hq with hq | rfl
    · exact I.fr q hq
    · exact rlt_more r _ []
  · refine List.pairwise_append.mpr ⟨I.so, by simp, fun v hv q hq => ?_⟩
    simp only [List.mem_singleton] at hq
    subst hq
    exact I.gr v hv k (by simp)
  · rcases one v hv with hv | rfl
    · rcases one q hq with hq | rfl
      · exact I.g v hv q hq y
      · exact rlt_trans (I.gr v hv k (by simp)) (rlt_more _ y [])
    · rcases one q hq with hq | rfl
      · exact rlt_app _ _ (I.fr q hq)
      · exact .inl (by simp)
  · rcases one v hv with hv | rfl
    · exact I.gr v hv j (by simp [hj])
    · exact rlt_last ((List.pairwise_cons.mp I.up).1 _ hj) r
theorem In.leave {r : List Str} {x : K} {don : List (Str × C)} {Q E : List (List Str × K)} (I : In kk key root tell r x don [] Q E) : Bl kk key root tell Q ((r, x) :: E) := by
  have sw : ∀ {v : List Str} {y : K}, ((v, y) ∈ E ∨ (v, y) ∈ (r, x) :: Q) → ((v, y) ∈ (r, x) :: E ∨ (v, y) ∈ Q) := fun {v y} h => by
    rcases h with h | h
    · exact .inl (List.mem_cons_of_mem _ h)
    · rcases List.mem_cons.mp h with e | h
      · exact .inl (by rw [e]; simp)
      · exact .inr h
  refine ⟨⟨sw I.c.s, fun e he k hk => ?_⟩, I.a, fun e he q hq => ?_, I.so, I.g⟩
  · rcases List.mem_cons.mp he with rfl | he
    · have hk : k ∈ kk x := hk
      rw [I.all, List.append_nil] at hk
      exact I.dn k hk
    · obtain ⟨h1, v, h2, h3⟩ := I.c.d e he k hk
      exact ⟨h1, v, h2, sw h3⟩
  · rcases List.mem_cons.mp he with rfl | he
    · exact I.fr q hq
    · exact rlt_trans (I.f e he) (I.fr q hq)
end
end BP
namespace BP
open PySem
/-- an answer that may be None -/
def eRow : Option (List Str) → D
  | none => .non
  | some r => eL r
theorem eRow_inj {a b : Option (List Str)} (h : eRow a = eRow b) : a = b := by
  cases a with
  | none => cases b with
    | none => rfl
    | some r => simp [eRow, eL] at h
  | some r => cases b with
    | none => simp [eRow, eL] at h
    | some t => rw [eL_inj h]
def KS (P : Option (List Str) → Prop) : K4 := ⟨fun _ => ∃ o, P o ∧ eRow o = .non, fun _ => False, fun _ => False, fun d => ∃ o, P o ∧ d = eRow o⟩
/-- the one answer -/
theorem ks_one {T : Tt} {P : Option (List Str) → Prop} {δ : En} (dt : Dt T) (uq : ∀ o o', P o → P o' → o = o') (h : T (KS P) δ) : ∃ o, P o ∧ T (k4 (eRow o)) δ := by
  have ho : ∃ o, P o := by
    rcases dt _ _ _ h h with ⟨_, ⟨o, h1, _⟩, _⟩ | ⟨_, h1, _⟩ | ⟨_, h1, _⟩ | ⟨_, ⟨o, h1, _⟩, _⟩
    · exact ⟨o, h1⟩
    · exact h1.elim
    · exact h1.elim
    · exact ⟨o, h1⟩
  obtain ⟨o, ho⟩ := ho
  refine ⟨o, ho, ?_⟩
  have e : KS P = k4 (eRow o) := by
    unfold KS k4
    congr 1
    · funext _
      refine propext ⟨fun ⟨o', h1, h2⟩ => ?_, fun h => ⟨o, ho, h⟩⟩
      rw [uq o o' ho h1]; exact h2
    · funext d
      refine propext ⟨fun ⟨o', h1, h2⟩ => ?_, fun h => ⟨o, ho, h⟩⟩
      rw [uq o o' ho h1]; exact h2
  rw [← e]
  exact h
abbrev Cd := Nat × Nat × List Str
abbrev Ky := List Str × Option (Nat × Nat)
def Pl.st (p : Pl) (i : Nat) : Str × (Str → Nat) := p.line.getD i ((Str.ofString ""), fun _ => 0)
def Wb.cands (w : Wb) (l : List Str) (f g : Str → Nat) : List (Str × Cd) := (w.signs.filter fun s => decide (w.at_ l s ≠ [])).map fun s => (s, (f s, g s, w.at_ l s))
def gkk (w : Wb) (p q : Pl) : Ky → List (Str × Cd)
  | (l, none) => w.cands l p.opens q.opens
  | (l, some (i, j)) => w.cands l (p.st i).2 (q.st j).2
def gkey (w : Wb) (p : Pl) : Cd → Ky := fun c => (w.reach c.2.2 (p.st c.1).1, some (c.1, c.2.1))
def groot (w : Wb) : Ky := (w.first, none)
def gtell (p q : Pl) : Cd → Bool := fun c => !decide ((p.st c.1).1 = (q.st c.2.1).1)
def ApartIs (w : Wb) (p q : Pl) (o : Option (List Str)) : Prop := Least (gkk w p q (groot w)) (fun c => gkk w p q (gkey w p c)) (gtell p q) o
theorem apart_one {w : Wb} {p q : Pl} {o o' : Option (List Str)} (h : ApartIs w p q o) (h' : ApartIs w p q o') : o = o' := Least.uniq h h'
theorem Wb.signs_up (w : Wb) : w.signs.Pairwise ltS := by
  have h1 : w.signs.Pairwise leT := sortT_pw _
  refine List.Pairwise.imp₂ (fun a b h n => ?_) h1 w.signs_nodup
  by_cases hl : a.cps.toList < b.cps.toList
  · exact hl
  · exact absurd (leT_anti h hl) n
theorem cands_up (w : Wb) (l : List Str) (f g : Str → Nat) : Up (w.cands l f g) := List.Pairwise.map _ (fun a b h => h) (List.Pairwise.filter _ w.signs_up)
theorem gkk_up (w : Wb) (p q : Pl) (k : Ky) : Up (gkk w p q k) := by
  obtain ⟨l, o⟩ := k
  cases o with
  | none => exact cands_up _ _ _ _
  | some x => exact cands_up _ _ _ _
/-- what the nodes are -/
structure Nd (w : Wb) (p q : Pl) (c : Cd) : Prop where
  i : c.1 < p.line.length
  j : c.2.1 < q.line.length
  s : ∃ f : Str → Bool, c.2.2 = w.places.filter f
theorem cands_nd {w : Wb} {p q : Pl} {l : List Str} {f g : Str → Nat} (hl : ∃ h : Str → Bool, l = w.places.filter h) (hf : ∀ s ∈ w.signs, f s < p.line.length) (hg : ∀ s ∈ w.signs, g s < q.line.length) : ∀ k ∈ w.cands l f g, k.1 ∈ w.signs ∧ Nd w p q k.2 := fun k hk => by
  obtain ⟨s, hs, rfl⟩ := List.mem_map.mp hk
  have hs' : s ∈ w.signs := (List.mem_filter.mp hs).1
  obtain ⟨h, rfl⟩ := hl
  refine ⟨hs', hf s hs', hg s hs', _, List.filter_filter⟩
theorem st_mem {p : Pl} {i : Nat} (h : i < p.line.length) : p.st i ∈ p.line := by
  unfold Pl.st
  rw [List.getD_eq_getElem?_getD, List.getElem?_eq_getElem h]
  exact List.getElem_mem h
theorem gkk_nd {w : Wb} {p q : Pl} {ls : List Str} (hp : p.Ok w.signs ls) (hq : q.Ok w.signs ls) {k : Ky} (hl : ∃ h : Str → Bool, k.1 = w.places.filter h) (hk : ∀ x, k.2 = some x → x.1 < p.line.length ∧ x.2 < q.line.length) : ∀ e ∈ gkk w p q k, e.1 ∈ w.signs ∧ Nd w p q e.2 := by
  obtain ⟨l, o⟩ := k
  cases o with
  | none => exact cands_nd hl hp.o hq.o
  | some x =>
    obtain ⟨h1, h2⟩ := hk x rfl
    exact cands_nd hl (hp.g _ (st_mem h1)).2 (hq.g _ (st_mem h2)).2
theorem first_is (w : Wb) : ∃ h : Str → Bool, (groot w).1 = w.places.filter h := ⟨_, rfl⟩
theorem rch_nd {w : Wb} {p q : Pl} {ls : List Str} (hp : p.Ok w.signs ls) (hq : q.Ok w.signs ls) {r : List Str} {c : Cd} (h : Rch (gkk w p q (groot w)) (fun c => gkk w p q (gkey w p c)) (gtell p q) r c) : (∀ x ∈ r, x ∈ w.signs) ∧ Nd w p q c := by
  induction h with
  | @one k hk =>
    obtain ⟨h1, h2⟩ := gkk_nd hp hq (first_is w) (fun x h => nomatch h) k hk
    exact ⟨fun x hx => by simp only [List.mem_singleton] at hx; rw [hx]; exact h1, h2⟩
  | @more r c k h n hk ih =>
    obtain ⟨h1, h2⟩ := gkk_nd hp hq (k := gkey w p c) ⟨_, rfl⟩ (fun x h => by cases h; exact ⟨ih.2.i, ih.2.j⟩) k hk
    refine ⟨fun x hx => ?_, h2⟩
    rcases List.mem_append.mp hx with hx | hx
    · exact ih.1 x hx
    · simp only [List.mem_singleton] at hx; rw [hx]; exact h1
def subs : List Str → List (List Str)
  | [] => [[]]
  | x :: r => subs r ++ (subs r).map (x :: ·)
theorem subs_len : ∀ l : List Str, (subs l).length = 2 ^ l.length
  | [] => rfl
  | x :: r => by simp [subs, subs_len r, Nat.pow_succ]; omega
theorem filter_subs (f : Str → Bool) : ∀ l : List Str, l.filter f ∈ subs l
  | [] => by simp [subs]
  | x :: r => by
    have ih := filter_subs f r
    simp only [List.filter_cons, subs, List.mem_append, List.mem_map]
    cases f x with
    | true => exact .inr ⟨_, ih, rfl⟩
    | false => exact .inl ih
def allC (w : Wb) : List Cd := (List.range 8).flatMap fun i => (List.range 8).flatMap fun j => (subs w.places).map fun s => (i, j, s)
theorem flat_len {α β : Type} (f : α → List β) (n : Nat) : ∀ l : List α, (∀ x ∈ l, (f x).length = n) → (l.flatMap f).length = l.length * n
  | [], _ => by simp
  | x :: r, h => by
    rw [List.flatMap_cons, List.length_append, h x (by simp), flat_len f n r fun y hy => h y (by simp [hy]), List.length_cons, Nat.succ_mul]
    omega
theorem allC_len {w : Wb} (ok : w.Ok) : (allC w).length ≤ 4096 := by
  unfold allC
  rw [flat_len _ (8 * 2 ^ w.places.length), List.length_range]
  · have : 2 ^ w.places.length ≤ 2 ^ 6 := Nat.pow_le_pow_right (by decide) ok.p6
    omega
  · intro i _
    rw [flat_len _ (2 ^ w.places.length), List.length_range]
    intro j _
    rw [List.length_map, subs_len]
theorem nd_all {w : Wb} {p q : Pl} {ls : List Str} (hp : p.Ok w.signs ls) (hq : q.Ok w.signs ls) {c : Cd} (h : Nd w p q c) : c ∈ allC w := by
  obtain ⟨i, j, s⟩ := c
  obtain ⟨h1, h2, f, h3⟩ := h
  have n1 := hp.n8
  have n2 := hq.n8
  unfold allC
  simp only [List.mem_flatMap, List.mem_map, List.mem_range]
  exact ⟨i, Nat.lt_of_lt_of_le h1 n1, j, Nat.lt_of_lt_of_le h2 n2, s, by rw [show s = _ from h3]; exact filter_subs f _, rfl⟩
theorem nd_few {w : Wb} (wk : w.Ok) {p q : Pl} {ls : List Str} (hp : p.Ok w.signs ls) (hq : q.Ok w.signs ls) {l : List Cd} (nd : l.Nodup) (h : ∀ c ∈ l, Nd w p q c) : l.length ≤ 4096 :=
  Nat.le_trans (nd.length_le_of_subset fun c hc => nd_all hp hq (h c hc)) (allC_len wk)
def eC (c : Cd) : D := .tup [.int c.1, .int c.2.1, eT c.2.2]
def eQ (e : List Str × Cd) : D := .tup [.int e.2.1, .int e.2.2.1, eT e.2.2.2, eL e.1]
theorem eC_inj {a b : Cd} (h : eC a = eC b) : a = b := by
  simp only [eC, D.tup.injEq, List.cons.injEq, D.int.injEq, and_true] at h
  obtain ⟨h1, h2, h3⟩ := h
  exact Prod.ext (by omega) (Prod.ext (by omega) (eT_inj h3))
theorem nkDs_S (l : List Str) : nkDs (l.map .str) = some (l.map .text) := by
  induction l with
  | nil => rfl
  | cons a r ih => simp [nkDs, nkD, ih]
theorem nk_C (c : Cd) : nkOk (eC c) = true := by
  have h : nkD (eC c) = some (.tup [.num c.1, .num c.2.1, .tup (c.2.2.map .text)]) := by
    simp [eC, eT, nkD, nkDs, nkDs_S]
  unfold nkOk
  rw [h]
  have dl : ∀ l : List Str, NestedKey.depthAll (l.map NestedKey.text) ≤ 1 := fun l => by
    induction l with
    | nil => simp [NestedKey.depthAll]
    | cons a r ih => simp only [List.map_cons, NestedKey.depthAll, NestedKey.depth]; omega
  have := dl c.2.2
  simp only [eC, decide_eq_true_eq]
  simp only [NestedKey.depth, NestedKey.depthAll]
  omega
theorem ix_S {p : Pl} (ss : List Str) {i : Nat} (h : i < p.line.length) : oSub2 (p.eS ss) (.int i) = some (eSt ss (p.st i)) := by
  simp only [oSub2, oIx, nix, Pl.eS, List.length_map]
  rw [if_pos (by omega), if_pos (by omega), Option.bind_some]
  unfold Pl.st
  simp [h]
theorem sub_st0 (ss : List Str) (st : Str × (Str → Nat)) : oSub2 (eSt ss st) (.int 0) = some (.str st.1) := rfl
theorem sub_st1 (ss : List Str) (st : Str × (Str → Nat)) : oSub2 (eSt ss st) (.int 1) = some (eG ss st.2) := rfl
theorem plain_i (n : Nat) (i : Int) : plainD n (.int i) = true := by cases n <;> rfl
theorem plain_Tn {l : List Str} (h : ∀ x ∈ l, nameOk x) (n : Nat) : plainD (n + 1) (eT l) = true := by
  simp only [eT, plainD, List.all_map, List.all_eq_true, Function.comp]
  exact fun x hx => plain_str (h x hx) 0
theorem plain_Ln {l : List Str} (h : ∀ x ∈ l, nameOk x) (n : Nat) : plainD (n + 1) (eL l) = true := by
  simp only [eL, plainD, List.all_map, List.all_eq_true, Function.comp]
  exact fun x hx => plain_str (h x hx) 0
theorem Wb.Ok.names {w : Wb} (ok : w.Ok) (f : Str → Bool) : ∀ x ∈ w.places.filter f, nameOk x := fun x hx => ok.name x (List.mem_filter.mp hx).1
theorem plain_Q {w : Wb} (wk : w.Ok) {p q : Pl} {Q : List (List Str × Cd)} (h : ∀ e ∈ Q, (∀ x ∈ e.1, x ∈ w.signs) ∧ Nd w p q e.2) : plainD 8 (.lst (Q.map eQ)) = true := by
  simp only [plainD, List.all_map, List.all_eq_true, Function.comp]
  intro e he
  obtain ⟨h1, h2⟩ := h e he
  obtain ⟨f, h3⟩ := h2.s
  simp only [eQ, plainD, List.all_cons, List.all_nil, Bool.and_true, plain_i, Bool.true_and, Bool.and_eq_true]
  exact ⟨by rw [h3]; exact plain_Tn (wk.names f) 5, plain_Ln (fun x hx => wk.sn x (h1 x hx)) 5⟩
theorem ne_nil {α : Type} (f : α → D) (Q : List α) (h : plainD 8 (.lst (Q.map f)) = true) : oNe (.lst (Q.map f)) (.lst []) = some (.bl (!decide (Q = []))) := by
  unfold oNe
  rw [if_pos ⟨h, rfl⟩]
  cases Q <;> simp
theorem ne_T0 {l : List Str} (h : ∀ x ∈ l, nameOk x) : oNe (eT l) (.tup []) = some (.bl (!decide (l = []))) := by
  unfold oNe
  rw [if_pos ⟨plain_T h, rfl⟩]
  cases l <;> simp [eT]
theorem ne_L00 {l : List Str} (h : ∀ x ∈ l, nameOk x) : oNe (eL l) (.lst []) = some (.bl (!decide (l = []))) := by
  unfold oNe
  rw [if_pos ⟨plain_L h, rfl⟩]
  cases l <;> simp [eL]
end BP
namespace BP
open PySem
section
variable {w : Wb} {p q : Pl}
theorem signs_ev (wk : w.Ok) {δ : En} {i : Nat} (h : δ.sh i = some w.obj) : oMeth0 0 "signs" F_signs (xVar i) δ = some (eL w.signs) := by
  simp only [oMeth0, xVar, h, Option.bind_some, Wb.obj]
  rw [if_pos ⟨trivial, rfl⟩]
  exact ex_signs w wk w.fields rfl
theorem at_ev (wk : w.Ok) {δ : En} {l : List Str} {s : Str} {g : Sx} (h : δ.sh 0 = some w.obj) (hg : g δ = some [eT l, .str s]) (hl : ∀ p ∈ l, p ∈ w.places) (hs : nameOk s) : oMeth 0 "at_sign" F_at_sign (xVar 0) g δ = some (eT (w.at_ l s)) := by
  have e := ex_at_sign w wk l s hl hs
  simp only [oMeth, xVar, h, hg, Option.bind_some, Wb.obj] at e ⊢
  rw [if_pos ⟨trivial, rfl⟩]
  exact e
theorem reached_ev (wk : w.Ok) {δ : En} {l : List Str} {x : Str} {g : Sx} (h : δ.sh 0 = some w.obj) (hg : g δ = some [eT l, .str x]) (hl : ∀ p ∈ l, p ∈ w.places) (h6 : l.length ≤ 6) (hx : x ∈ w.letters) : oMeth 0 "reached" F_reached (xVar 0) g δ = some (eT (w.reach l x)) := by
  have e := ex_reached w wk l x hl h6 hx
  simp only [oMeth, xVar, h, hg, Option.bind_some, Wb.obj] at e ⊢
  rw [if_pos ⟨trivial, rfl⟩]
  exact e
theorem in_places {f : Str → Bool} {l : List Str} (h : l = w.places.filter f) : ∀ x ∈ l, x ∈ w.places := fun x hx => by
  rw [h] at hx
  exact (List.mem_filter.mp hx).1
theorem six {f : Str → Bool} (wk : w.Ok) {l : List Str} (h : l = w.places.filter f) : l.length ≤ 6 := by
  rw [h]
  exact Nat.le_trans (List.length_filter_le _ _) wk.p6
theorem at_names (wk : w.Ok) {l : List Str} (hl : ∀ x ∈ l, x ∈ w.places) (s : Str) : ∀ x ∈ w.at_ l s, nameOk x := fun x hx => wk.name x (hl x (List.mem_filter.mp hx).1)
theorem tup0 (δ : En) : xL oTup (xs0) δ = some (.tup []) := rfl
theorem lst0 (δ : En) : xL oLst (xs0) δ = some (.lst []) := rfl
def stA (w : Wb) (p q : Pl) (Q : List D) (kv : List (D × D)) (x5 x6 x7 x8 x9 x10 x11 x12 : Option Sl) : En := [some (.sh w.obj), some (.sh (p.obj w.signs)), some (.sh (q.obj w.signs)), some (.ol Q), some (.on kv), x5, x6, x7, x8, x9, x10, x11, x12]
def bodyA1 : Tt := (sThen (sIf (tB (x2 oNe (oMeth 0 "at_sign" F_at_sign (xVar 0) (xsC (x1 (oFldC 0 "first") (bVar 0)) (xsC (xVar 5) (xs0)))) (xL oTup (xs0)))) (sThen (sApp 3 (xL oTup (xsC (x2 oSub2 (x1 (oFldC 1 "opens") (bVar 1)) (xVar 5)) (xsC (x2 oSub2 (x1 (oFldC 1 "opens") (bVar 2)) (xVar 5)) (xsC (oMeth 0 "at_sign" F_at_sign (xVar 0) (xsC (x1 (oFldC 0 "first") (bVar 0)) (xsC (xVar 5) (xs0)))) (xsC (xL oLst (xsC (xVar 5) (xs0))) (xs0))))))) (sNext)) (sNext)) (sNext))
def bodyA2 : Tt := (sThen (sIf (tB (x2 oNe (oMeth 0 "at_sign" F_at_sign (xVar 0) (xsC (xVar 11) (xsC (xVar 5) (xs0)))) (xL oTup (xs0)))) (sThen (sSet 12 (nSh (xL oTup (xsC (x2 oSub2 (x2 oSub2 (x2 oSub2 (x1 (oFldC 1 "line") (bVar 1)) (xVar 6)) (xC (.int 1))) (xVar 5)) (xsC (x2 oSub2 (x2 oSub2 (x2 oSub2 (x1 (oFldC 1 "line") (bVar 2)) (xVar 7)) (xC (.int 1))) (xVar 5)) (xs0)))))) (sThen (sApp 3 (x2 oPlus (xVar 12) (xL oTup (xsC (oMeth 0 "at_sign" F_at_sign (xVar 0) (xsC (xVar 11) (xsC (xVar 5) (xs0)))) (xsC (x2 oPlus (xVar 9) (xL oLst (xsC (xVar 5) (xs0)))) (xs0)))))) (sNext))) (sNext)) (sNext))
def rowsOf (r : List Str) (ks : List (Str × Cd)) : List D := (ks.map fun k => (r ++ [k.1], k.2)).map eQ
/-- the nodes of these signs -/
def candsOn (w : Wb) (l ss : List Str) (f g : Str → Nat) : List (Str × Cd) := (ss.filter fun s => decide (w.at_ l s ≠ [])).map fun s => (s, (f s, g s, w.at_ l s))
theorem rowsOf_cons {l ss : List Str} {s : Str} {f g : Str → Nat} {r : List Str} : rowsOf r (candsOn w l (s :: ss) f g) = (if w.at_ l s = [] then [] else [eQ (r ++ [s], (f s, g s, w.at_ l s))]) ++ rowsOf r (candsOn w l ss f g) := by
  unfold rowsOf candsOn
  by_cases h : w.at_ l s = []
  · rw [List.filter_cons, if_neg (by simp [h]), if_pos h]; rfl
  · rw [List.filter_cons, if_pos (by simp [h]), if_neg h]; rfl
theorem rowsOf_len (l ss : List Str) (f g : Str → Nat) (r : List Str) : (rowsOf r (candsOn w l ss f g)).length ≤ ss.length := by
  unfold rowsOf candsOn
  simp only [List.length_map]
  exact List.length_filter_le _ _
theorem loopA1 (wk : w.Ok) (kv : List (D × D)) (x6 x7 x8 x9 x10 x11 x12 : Option Sl) (C : K4) : ∀ (ss : List Str) (acc : List D) (x5 : Option Sl), (∀ s ∈ ss, s ∈ w.signs) → acc.length + ss.length ≤ 1000 → (∀ x5, C.nx (stA w p q (acc ++ rowsOf [] (candsOn w w.first ss p.opens q.opens)) kv x5 x6 x7 x8 x9 x10 x11 x12)) →
    sForL (gN 5) bodyA1 C (ss.map .str) (stA w p q acc kv x5 x6 x7 x8 x9 x10 x11 x12)
  | [], acc, x5, _, _, h => by
    have := h x5
    simp only [candsOn, rowsOf, List.filter_nil, List.map_nil, List.append_nil] at this
    exact this
  | s :: ss, acc, x5, hs, hl, h => by
    have s1 := hs s (by simp)
    have fp : ∀ x ∈ w.first, x ∈ w.places := in_places rfl
    have ea : ∀ {δ : En}, δ = stA w p q acc kv (some (.sh (.str s))) x6 x7 x8 x9 x10 x11 x12 → oMeth 0 "at_sign" F_at_sign (xVar 0) (xsC (x1 (oFldC 0 "first") (bVar 0)) (xsC (xVar 5) (xs0))) δ = some (eT (w.at_ w.first s)) := fun {δ} e => by
      subst e
      exact at_ev wk rfl rfl fp (wk.sn s s1)
    refine ⟨stA w p q acc kv (some (.sh (.str s))) x6 x7 x8 x9 x10 x11 x12, rfl, !decide (w.at_ w.first s = []), ?_, ?_⟩
    · simp only [tB, x2, ea rfl, tup0, Option.bind_some, ne_T0 (at_names wk fp s)]
    rw [rowsOf_cons] at h
    by_cases he : w.at_ w.first s = []
    · rw [he]
      simp only [decide_true, Bool.not_true, Bool.false_eq_true, if_false]
      rw [if_pos he, List.nil_append] at h
      exact loopA1 wk kv x6 x7 x8 x9 x10 x11 x12 C ss acc _ (fun x hx => hs x (by simp [hx])) (by simp only [List.length_cons] at hl; omega) h
    · rw [decide_eq_false he]
      simp only [Bool.not_false, if_true]
      rw [if_neg he] at h
      refine ⟨acc, eQ ([s], (p.opens s, q.opens s, w.at_ w.first s)), rfl, ?_, ?_, ?_⟩
      · have g1 := sub_G p.opens s1
        have g2 := sub_G q.opens s1
        have l1 : oLst [D.str s] = some (eL [s]) := rfl
        have t4 : ∀ a b c d : D, oTup [a, b, c, d] = some (.tup [a, b, c, d]) := fun a b c d => by unfold oTup; rw [if_pos (most_ge (by simp))]
        simp only [xL, xsC, xs0, ea rfl]
        simp only [x2, x1, bVar, xVar, En.any, En.sh, stA, List.getElem?_cons_succ, List.getElem?_cons_zero, Option.bind_some, obj_opens, g1, g2, l1, t4]
        rfl
      · exact Nat.lt_of_le_of_lt (by simp only [List.length_cons] at hl; omega : acc.length ≤ 1000) (by decide)
      · refine loopA1 wk kv x6 x7 x8 x9 x10 x11 x12 C ss (acc ++ [eQ ([s], (p.opens s, q.opens s, w.at_ w.first s))]) _ (fun x hx => hs x (by simp [hx])) (by simp only [List.length_cons, List.length_append, List.length_nil] at hl ⊢; omega) ?_
        rw [List.append_assoc]
        exact h
theorem loopA2 (wk : w.Ok) {ls : List Str} (hp : p.Ok w.signs ls) (hq : q.Ok w.signs ls) (kv : List (D × D)) {i j : Nat} (hi : i < p.line.length) (hj : j < q.line.length) {r l : List Str} (hr : r.length ≤ 5000) (hlp : ∀ x ∈ l, x ∈ w.places) (x8 x10 : Option Sl) (C : K4) : ∀ (ss : List Str) (acc : List D) (x5 x12 : Option Sl), (∀ s ∈ ss, s ∈ w.signs) → acc.length + ss.length ≤ 30000 → (∀ x5 x12, C.nx (stA w p q (acc ++ rowsOf r (candsOn w l ss (p.st i).2 (q.st j).2)) kv x5 (some (.sh (.int i))) (some (.sh (.int j))) x8 (some (.sh (eL r))) x10 (some (.sh (eT l))) x12)) →
    sForL (gN 5) bodyA2 C (ss.map .str) (stA w p q acc kv x5 (some (.sh (.int i))) (some (.sh (.int j))) x8 (some (.sh (eL r))) x10 (some (.sh (eT l))) x12)
  | [], acc, x5, x12, _, _, h => by
    have := h x5 x12
    simp only [candsOn, rowsOf, List.filter_nil, List.map_nil, List.append_nil] at this
    exact this
  | s :: ss, acc, x5, x12, hs, hl, h => by
    have s1 := hs s (by simp)
    have ea : ∀ {δ : En} {x12 : Option Sl}, δ = stA w p q acc kv (some (.sh (.str s))) (some (.sh (.int i))) (some (.sh (.int j))) x8 (some (.sh (eL r))) x10 (some (.sh (eT l))) x12 → oMeth 0 "at_sign" F_at_sign (xVar 0) (xsC (xVar 11) (xsC (xVar 5) (xs0))) δ = some (eT (w.at_ l s)) := fun {δ x12} e => by
      subst e
      exact at_ev wk rfl rfl hlp (wk.sn s s1)
    refine ⟨stA w p q acc kv (some (.sh (.str s))) (some (.sh (.int i))) (some (.sh (.int j))) x8 (some (.sh (eL r))) x10 (some (.sh (eT l))) x12, rfl, !decide (w.at_ l s = []), ?_, ?_⟩
    · simp only [tB, x2, ea rfl, tup0, Option.bind_some, ne_T0 (at_names wk hlp s)]
    rw [rowsOf_cons] at h
    by_cases he : w.at_ l s = []
    · rw [he]
      simp only [decide_true, Bool.not_true, Bool.false_eq_true, if_false]
      rw [if_pos he, List.nil_append] at h
      exact loopA2 wk hp hq kv hi hj hr hlp x8 x10 C ss acc _ _ (fun x hx => hs x (by simp [hx])) (by simp only [List.length_cons] at hl; omega) h
    · rw [decide_eq_false he]
      simp only [Bool.not_false, if_true]
      rw [if_neg he] at h
      have g1 := sub_G (p.st i).2 s1
      have g2 := sub_G (q.st j).2 s1
      refine ⟨.sh (.tup [.int ((p.st i).2 s), .int ((q.st j).2 s)]), ?_, acc, eQ (r ++ [s], ((p.st i).2 s, (q.st j).2 s, w.at_ l s)), rfl, ?_, ?_, ?_⟩
      · simp only [nSh, xL, xsC, xs0, xC, x2, x1, bVar, xVar, En.any, En.sh, stA, List.getElem?_cons_succ, List.getElem?_cons_zero, Option.bind_some, obj_line, ix_S _ hi, ix_S _ hj, sub_st1, g1, g2, tup2]
        rfl
      · have e : ∀ (x : Option Sl), En.put (stA w p q acc kv (some (.sh (.str s))) (some (.sh (.int i))) (some (.sh (.int j))) x8 (some (.sh (eL r))) x10 (some (.sh (eT l))) x) 12 (.sh (.tup [.int ((p.st i).2 s), .int ((q.st j).2 s)])) = stA w p q acc kv (some (.sh (.str s))) (some (.sh (.int i))) (some (.sh (.int j))) x8 (some (.sh (eL r))) x10 (some (.sh (eT l))) (some (.sh (.tup [.int ((p.st i).2 s), .int ((q.st j).2 s)]))) := fun x => rfl
        have l1 : oLst [D.str s] = some (eL [s]) := rfl
        have c1 : oPlus (eL r) (eL [s]) = some (eL (r ++ [s])) := cat_L r [s] (by
          have : r.length + 1 ≤ 5001 := by omega
          exact Nat.le_trans this (by decide))
        have c2 : ∀ a b c d : D, oPlus (.tup [a, b]) (.tup [c, d]) = some (.tup [a, b, c, d]) := fun a b c d => by
          simp only [oPlus, oCatT]
          rw [if_pos ⟨by simp, by simp, by simp [most]⟩]
          rfl
        rw [e]
        simp only [x2, xL, xsC, xs0, ea rfl]
        simp only [xVar, En.sh, stA, List.getElem?_cons_succ, List.getElem?_cons_zero, Option.bind_some, l1, c1, tup2, c2]
        rfl
      · exact Nat.lt_of_le_of_lt (by simp only [List.length_cons] at hl; omega : acc.length ≤ 30000) (by decide)
      · refine loopA2 wk hp hq kv hi hj hr hlp x8 x10 C ss (acc ++ [eQ (r ++ [s], ((p.st i).2 s, (q.st j).2 s, w.at_ l s))]) _ _ (fun x hx => hs x (by simp [hx])) (by simp only [List.length_cons, List.length_append, List.length_nil] at hl ⊢; omega) ?_
        rw [List.append_assoc]
        exact h
def kvOf (E : List (List Str × Cd)) : List (D × D) := (E.map (·.2)).reverse.map fun c => (eC c, D.bl true)
theorem look_kv (c : Cd) : ∀ l : List Cd, (dLook (eC c) (l.map fun c => (eC c, D.bl true))).isSome = decide (c ∈ l)
  | [] => rfl
  | a :: r => by
    simp only [List.map_cons, dLook]
    by_cases h : a = c
    · subst h; rw [if_pos rfl]; simp
    · rw [if_neg (fun e => h (eC_inj e)), look_kv c r]
      simp [Ne.symm h]
theorem look_kvOf (c : Cd) (E : List (List Str × Cd)) : (dLook (eC c) (kvOf E)).isSome = decide (c ∈ E.map (·.2)) := by
  unfold kvOf
  rw [look_kv]
  simp
theorem put_kvOf {c : Cd} {E : List (List Str × Cd)} (r : List Str) (h : c ∉ E.map (·.2)) : dPut (eC c) (.bl true) (kvOf E) = kvOf ((r, c) :: E) := by
  rw [dPut_new]
  · simp [kvOf]
  · intro x hx e
    unfold kvOf at hx
    obtain ⟨d, hd, rfl⟩ := List.mem_map.mp hx
    have := eC_inj e
    subst this
    exact h (by simpa using hd)
theorem ex_apart (wk : w.Ok) (hp : p.Ok w.signs w.letters) (hq : q.Ok w.signs w.letters) : ∃ o, ApartIs w p q o ∧ F_apart [w.obj, p.obj w.signs, q.obj w.signs] = some (eRow o) := by
  have main : T_apart (KS (ApartIs w p q)) (startE 13 [w.obj, p.obj w.signs, q.obj w.signs]) := by
    have e1 : startE 13 [w.obj, p.obj w.signs, q.obj w.signs] = [some (.sh w.obj), some (.sh (p.obj w.signs)), some (.sh (q.obj w.signs)), none, none, none, none, none, none, none, none, none, none] := rfl
    rw [e1]
    have c1 := ex_check_fits w wk p hp
    have c2 := ex_check_fits w wk q hq
    refine ⟨.non, ?_, .non, ?_, .ol [], .on [], rfl, ?_⟩
    · simp only [xL, xsC, xs0, xVar, En.sh, List.getElem?_cons_succ, List.getElem?_cons_zero, Option.bind_some, c1]
    · simp only [xL, xsC, xs0, xVar, En.sh, List.getElem?_cons_succ, List.getElem?_cons_zero, Option.bind_some, c2]
    show sThen (sFor _ _ bodyA1) _ _ (stA w p q [] [] none none none none none none none none)
    have s6 := wk.s6
    refine ⟨w.signs.map .str, ?_, loopA1 wk [] none none none none none none none _ w.signs [] none (fun _ h => h) (by simp; omega) fun x5 => ?_⟩
    · simp only [sLst]
      rw [signs_ev wk (δ := stA w p q [] [] none none none none none none none none) rfl]
      rfl
    rw [List.nil_append]
    show sThen (sWhile _ _) _ _ (stA w p q ((((gkk w p q (groot w)).map fun k => ([k.1], k.2)).map eQ)) (kvOf []) x5 none none none none none none none)
    let W : Nat → En → Prop := fun m δ => ∃ (Q E : List (List Str × Cd)) (x5 x6 x7 x8 x9 x10 x11 x12 : Option Sl), δ = stA w p q (Q.map eQ) (kvOf E) x5 x6 x7 x8 x9 x10 x11 x12 ∧ Bf (gkk w p q (groot w)) (fun c => gkk w p q (gkey w p c)) (gtell p q) Q E ∧ (E.map (·.2)).Nodup ∧ (∀ e ∈ E, Nd w p q e.2) ∧ (∀ e ∈ Q, e.1.length ≤ E.length + 1) ∧ Q.length + 6 * (4096 - E.length) ≤ 24582 ∧ m = Q.length + 7 * (4096 - E.length)
    have few : ∀ {E : List (List Str × Cd)}, (E.map (·.2)).Nodup → (∀ e ∈ E, Nd w p q e.2) → E.length ≤ 4096 := fun {E} h1 h2 => by
      have := nd_few wk hp hq h1 fun c hc => by
        obtain ⟨e, he, rfl⟩ := List.mem_map.mp hc
        exact h2 e he
      rw [List.length_map] at this
      exact this
    have start_len : (gkk w p q (groot w)).length ≤ 6 := by
      show (List.map _ _).length ≤ 6
      rw [List.length_map]
      exact Nat.le_trans (List.length_filter_le _ _) s6
    refine ⟨W, ⟨_, _, _, x5, _, _, _, _, _, _, _, rfl, Bf.init (gkk_up _ _ _ _), by simp, by simp, fun e he => ?_, ?_, rfl⟩, ?_⟩
    · obtain ⟨k, hk, rfl⟩ := List.mem_map.mp he
      simp
    · rw [List.length_map, List.length_nil]; omega
    rintro m δ ⟨Q, E, x5, x6, x7, x8, x9, x10, x11, x12, rfl, B, nd, hE, hr, hb, rfl⟩
    have hQ : ∀ e ∈ Q, (∀ x ∈ e.1, x ∈ w.signs) ∧ Nd w p q e.2 := fun e he => rch_nd hp hq (B.a e he)
    refine ⟨!decide (Q = []), ?_, ?_⟩
    · simp only [tB, x2, lst0, bVar, En.any, stA, List.getElem?_cons_succ, List.getElem?_cons_zero, Option.bind_some, ne_nil _ _ (plain_Q wk hQ)]
    cases Q with
    | nil =>
      simp only [decide_true, Bool.not_true, Bool.false_eq_true, if_false]
      exact ⟨.non, rfl, none, B.ends, rfl⟩
    | cons e Q =>
      obtain ⟨r, i, j, S⟩ := e
      rw [decide_eq_false (by simp), Bool.not_false, if_pos rfl]
      obtain ⟨hrs, hi, hj, f, hS⟩ := hQ _ (List.mem_cons_self)
      have hi : i < p.line.length := hi
      have hj : j < q.line.length := hj
      have hS : S = w.places.filter f := hS
      refine ⟨eQ (r, (i, j, S)), Q.map eQ, stA w p q ((eQ (r, (i, j, S))) :: Q.map eQ) (kvOf E) x5 (some (.sh (.int i))) (some (.sh (.int j))) (some (.sh (eT S))) (some (.sh (eL r))) x10 x11 x12, rfl, rfl, ?_⟩
      show sThen (sSet 10 _) _ _ (stA w p q (Q.map eQ) (kvOf E) x5 (some (.sh (.int i))) (some (.sh (.int j))) (some (.sh (eT S))) (some (.sh (eL r))) x10 x11 x12)
      refine ⟨.sh (.str (p.st i).1), ?_, ?_⟩
      · simp only [nSh, xC, x2, x1, bVar, xVar, En.any, En.sh, stA, List.getElem?_cons_succ, List.getElem?_cons_zero, Option.bind_some, obj_line, ix_S _ hi, sub_st0]
        rfl
      show sThen (sIf _ _ _) _ _ (stA w p q (Q.map eQ) (kvOf E) x5 (some (.sh (.int i))) (some (.sh (.int j))) (some (.sh (eT S))) (some (.sh (eL r))) (some (.sh (.str (p.st i).1))) x11 x12)
      have m1 := (hp.g _ (st_mem hi)).1
      have m2 := (hq.g _ (st_mem hj)).1
      refine ⟨gtell p q (i, j, S), ?_, ?_⟩
      · simp only [tB, xC, x2, x1, bVar, xVar, En.any, En.sh, stA, List.getElem?_cons_succ, List.getElem?_cons_zero, Option.bind_some, obj_line, ix_S _ hj, sub_st0, ne_S (wk.ln _ m1) (wk.ln _ m2)]
        rfl
      cases ht : gtell p q (i, j, S) with
      | true =>
        rw [if_pos rfl]
        exact ⟨eL r, rfl, some r, B.tells ht, rfl⟩
      | false =>
        rw [if_neg Bool.false_ne_true]
        have t3 : ∀ a b c : D, oTup [a, b, c] = some (.tup [a, b, c]) := fun a b c => by unfold oTup; rw [if_pos (most_ge (by simp))]
        have key : xL oTup (xsC (xVar 6) (xsC (xVar 7) (xsC (xVar 8) (xs0)))) (stA w p q (Q.map eQ) (kvOf E) x5 (some (.sh (.int i))) (some (.sh (.int j))) (some (.sh (eT S))) (some (.sh (eL r))) (some (.sh (.str (p.st i).1))) x11 x12) = some (eC (i, j, S)) := by
          simp only [xL, xsC, xs0, xVar, En.sh, stA, List.getElem?_cons_succ, List.getElem?_cons_zero, Option.bind_some, t3]
          rfl
        refine ⟨!decide ((i, j, S) ∈ E.map (·.2)), ?_, ?_⟩
        · show tB (xNotInN 4 _) (stA w p q (Q.map eQ) (kvOf E) x5 (some (.sh (.int i))) (some (.sh (.int j))) (some (.sh (eT S))) (some (.sh (eL r))) (some (.sh (.str (p.st i).1))) x11 x12) = _
          unfold tB xNotInN
          rw [key]
          simp only [stA, List.getElem?_cons_succ, List.getElem?_cons_zero, Option.bind_some, nk_C, if_true, look_kvOf]
        have le := few nd hE
        simp only [List.length_cons] at hb
        by_cases hk : (i, j, S) ∈ E.map (·.2)
        · rw [decide_eq_true hk]
          simp only [Bool.not_true, Bool.false_eq_true, if_false]
          obtain ⟨e, he, h3⟩ := List.mem_map.mp hk
          refine ⟨Q.length + 7 * (4096 - E.length), by simp only [List.length_cons]; omega, Q, E, x5, _, _, _, _, _, x11, x12, rfl, B.skip ⟨e.1, by rw [← h3]; exact he⟩, nd, hE, fun e he => hr e (by simp [he]), by omega, rfl⟩
        · rw [decide_eq_false hk]
          simp only [Bool.not_false, if_true]
          have nd' : (((r, (i, j, S)) :: E).map (·.2)).Nodup := by
            rw [List.map_cons]
            exact List.nodup_cons.mpr ⟨hk, nd⟩
          have hE' : ∀ e ∈ (r, (i, j, S)) :: E, Nd w p q e.2 := fun e he => by
            rcases List.mem_cons.mp he with rfl | he
            · exact ⟨hi, hj, f, hS⟩
            · exact hE e he
          have le' := few nd' hE'
          simp only [List.length_cons] at le'
          have hr0 := hr (r, (i, j, S)) List.mem_cons_self
          have hr0 : r.length ≤ E.length + 1 := hr0
          have kl : (kvOf E).length < most := by
            have : (kvOf E).length = E.length := by simp [kvOf]
            rw [this]
            exact Nat.lt_of_le_of_lt le (by decide)
          have pl := in_places hS
          have s6' := six wk hS
          refine ⟨kvOf E, eC (i, j, S), .bl true, rfl, rfl, key, nk_C _, kl, ?_⟩
          show sThen (sSet 11 _) _ _ (stA w p q (Q.map eQ) (dPut (eC (i, j, S)) (.bl true) (kvOf E)) x5 (some (.sh (.int i))) (some (.sh (.int j))) (some (.sh (eT S))) (some (.sh (eL r))) (some (.sh (.str (p.st i).1))) x11 x12)
          rw [put_kvOf r hk]
          refine ⟨.sh (eT (w.reach S (p.st i).1)), ?_, ?_⟩
          · have e := reached_ev wk (δ := stA w p q (Q.map eQ) (kvOf ((r, (i, j, S)) :: E)) x5 (some (.sh (.int i))) (some (.sh (.int j))) (some (.sh (eT S))) (some (.sh (eL r))) (some (.sh (.str (p.st i).1))) x11 x12) (g := xsC (xVar 8) (xsC (xVar 10) (xs0))) (l := S) (x := (p.st i).1) rfl rfl pl s6' m1
            exact congrArg (Option.map Sl.sh) e
          show sThen (sFor _ _ bodyA2) _ _ (stA w p q (Q.map eQ) (kvOf ((r, (i, j, S)) :: E)) x5 (some (.sh (.int i))) (some (.sh (.int j))) (some (.sh (eT S))) (some (.sh (eL r))) (some (.sh (.str (p.st i).1))) (some (.sh (eT (w.reach S (p.st i).1)))) x12)
          refine ⟨w.signs.map .str, ?_, loopA2 wk hp hq _ hi hj (by omega) (in_places (f := fun q => S.any fun p' => decide (q ∈ w.way p' (p.st i).1)) rfl) _ _ _ w.signs _ x5 x12 (fun _ h => h) (by rw [List.length_map]; omega) fun x5 x12 => ?_⟩
          · simp only [sLst]
            rw [signs_ev wk (δ := stA w p q (Q.map eQ) (kvOf ((r, (i, j, S)) :: E)) x5 (some (.sh (.int i))) (some (.sh (.int j))) (some (.sh (eT S))) (some (.sh (eL r))) (some (.sh (.str (p.st i).1))) (some (.sh (eT (w.reach S (p.st i).1)))) x12) rfl]
            rfl
          have kl6 : (gkk w p q (gkey w p (i, j, S))).length ≤ 6 := by
            show (List.map _ _).length ≤ 6
            rw [List.length_map]
            exact Nat.le_trans (List.length_filter_le _ _) s6
          refine ⟨(Q.length + (gkk w p q (gkey w p (i, j, S))).length) + 7 * (4096 - (E.length + 1)), by simp only [List.length_cons]; omega, Q ++ (gkk w p q (gkey w p (i, j, S))).map (fun k => (r ++ [k.1], k.2)), (r, (i, j, S)) :: E, x5, some (.sh (.int i)), some (.sh (.int j)), some (.sh (eT S)), some (.sh (eL r)), some (.sh (.str (p.st i).1)), some (.sh (eT (w.reach S (p.st i).1))), x12, ?_, B.step ht (gkk_up _ _ _ _), nd', hE', fun e he => ?_, ?_, ?_⟩
          · rw [List.map_append]
            rfl
          · simp only [List.length_cons]
            rcases List.mem_append.mp he with he | he
            · have := hr e (by simp [he]); omega
            · obtain ⟨k, _, rfl⟩ := List.mem_map.mp he
              simp only [List.length_append, List.length_cons, List.length_nil]
              omega
          · rw [List.length_append, List.length_map, List.length_cons]; omega
          · rw [List.length_append, List.length_map, List.length_cons]
  obtain ⟨o, h1, h2⟩ := ks_one dt_apart (fun o o' => apart_one) main
  exact ⟨o, h1, FU_is dt_apart rfl h2⟩
end
end BP
namespace BP
open PySem
section
variable {w : Wb} {p q : Pl}
def eM1 : Option (Nat × Nat) → D
  | none => .non
  | some x => .int x.1
def eM2 : Option (Nat × Nat) → D
  | none => .non
  | some x => .int x.2
def eLn (e : List Str × Ky) : D := .tup [eL e.1, eL e.2.1, eM1 e.2.2, eM2 e.2.2]
def eS3 (c : Cd) : D := .tup [eL c.2.2, .int c.1, .int c.2.1]
def toK (c : Cd) : Ky := (c.2.2, some (c.1, c.2.1))
theorem eS3_inj {a b : Cd} (h : eS3 a = eS3 b) : a = b := by
  simp only [eS3, D.tup.injEq, List.cons.injEq, D.int.injEq, and_true] at h
  obtain ⟨h1, h2, h3⟩ := h
  exact Prod.ext (by omega) (Prod.ext (by omega) (eL_inj h1))
def gf (p : Pl) : Option (Nat × Nat) → Str → Nat
  | none => p.opens
  | some x => (p.st x.1).2
def gg (q : Pl) : Option (Nat × Nat) → Str → Nat
  | none => q.opens
  | some x => (q.st x.2).2
theorem gkk_is (x : Ky) : gkk w p q x = candsOn w x.1 w.signs (gf p x.2) (gg q x.2) := by
  obtain ⟨l, o⟩ := x
  cases o <;> rfl
/-- a state that the search may stand in -/
structure Ok2 (w : Wb) (p q : Pl) (x : Ky) : Prop where
  l : ∃ f : Str → Bool, x.1 = w.places.filter f
  i : ∀ y, x.2 = some y → y.1 < p.line.length ∧ y.2 < q.line.length
theorem gf_lt {ls : List Str} (hp : p.Ok w.signs ls) {x : Ky} (h : Ok2 w p q x) {s : Str} (hs : s ∈ w.signs) : gf p x.2 s < p.line.length := by
  obtain ⟨l, o⟩ := x
  cases o with
  | none => exact hp.o s hs
  | some y => exact (hp.g _ (st_mem (h.i y rfl).1)).2 s hs
theorem gg_lt {ls : List Str} (hq : q.Ok w.signs ls) {x : Ky} (h : Ok2 w p q x) {s : Str} (hs : s ∈ w.signs) : gg q x.2 s < q.line.length := by
  obtain ⟨l, o⟩ := x
  cases o with
  | none => exact hq.o s hs
  | some y => exact (hq.g _ (st_mem (h.i y rfl).2)).2 s hs
def stB (w : Wb) (p q : Pl) (line seen : List D) (x10 x11 x12 x13 x14 x15 x16 x17 x18 x19 : Option Sl) : En := [some (.sh (.tup w.parts)), some (.sh (.tup (p.parts w.signs))), some (.sh (.tup (q.parts w.signs))), some (.sh (eL w.letters)), some (.sh (eK w.spots)), some (.sh (eL w.begins)), some (.sh (eW w.places w.letters fun p l => eL (w.way p l))), some (.sh (eL w.signs)), some (.ol line), some (.ol seen), x10, x11, x12, x13, x14, x15, x16, x17, x18, x19, none, none]
def bodyB : Tt := (sThen (sSet 15 (nSh (xLc (sLst (xVar 11)) [20] (gN 20) (tB (x2 oEq (x2 oSub2 (bVar 4) (xVar 20)) (bVar 14))) (xVar 20)))) (sThen (sIf (tB (x2 oNe (bVar 15) (xL oLst (xs0)))) (sThen (sSet 16 (nSh (xIf (tB (x1 oIsN (bVar 12))) (x2 oSub2 (x2 oSub2 (bVar 1) (xC (.int 0))) (xVar 14)) (x2 oSub2 (x2 oSub2 (x2 oSub2 (x2 oSub2 (bVar 1) (xC (.int 1))) (xVar 12)) (xC (.int 1))) (xVar 14))))) (sThen (sSet 17 (nSh (xIf (tB (x1 oIsN (bVar 13))) (x2 oSub2 (x2 oSub2 (bVar 2) (xC (.int 0))) (xVar 14)) (x2 oSub2 (x2 oSub2 (x2 oSub2 (x2 oSub2 (bVar 2) (xC (.int 1))) (xVar 13)) (xC (.int 1))) (xVar 14))))) (sThen (sSet 18 (nSh (x2 oSub2 (x2 oSub2 (x2 oSub2 (bVar 1) (xC (.int 1))) (xVar 16)) (xC (.int 0))))) (sThen (sIf (tB (x2 oNe (bVar 18) (x2 oSub2 (x2 oSub2 (x2 oSub2 (bVar 2) (xC (.int 1))) (xVar 17)) (xC (.int 0))))) (sThen (sRet (x2 oPlus (xVar 10) (xL oLst (xsC (xVar 14) (xs0))))) (sNext)) (sNext)) (sThen (sSet 19 (nSh (xLc (sDct (xVar 4) dKeys) [20] (gN 20) (tB (xL oAny (xsC (xLc (sLst (xVar 15)) [21] (gN 21) (tTrue) (x2 oIn (bVar 20) (x2 oSub2 (bVar 6) (xL oTup (xsC (xVar 21) (xsC (xVar 18) (xs0))))))) (xs0)))) (xVar 20)))) (sThen (sIf (tB (x2 oNotInL (xL oTup (xsC (xVar 19) (xsC (xVar 16) (xsC (xVar 17) (xs0))))) (bVar 9))) (sThen (sApp 9 (xL oTup (xsC (xVar 19) (xsC (xVar 16) (xsC (xVar 17) (xs0)))))) (sThen (sApp 8 (xL oTup (xsC (x2 oPlus (xVar 10) (xL oLst (xsC (xVar 14) (xs0)))) (xsC (xVar 19) (xsC (xVar 16) (xsC (xVar 17) (xs0))))))) (sNext))) (sNext)) (sNext))))))) (sNext)) (sNext)))
theorem t3 (a b c : D) : oTup [a, b, c] = some (.tup [a, b, c]) := by unfold oTup; rw [if_pos (most_ge (by simp))]
theorem t4 (a b c d : D) : oTup [a, b, c, d] = some (.tup [a, b, c, d]) := by unfold oTup; rw [if_pos (most_ge (by simp))]
theorem plain_S (wk : w.Ok) {S : List Cd} (h : ∀ c ∈ S, Nd w p q c) : plainD 9 (.lst (S.map eS3)) = true := by
  simp only [plainD, List.all_map, List.all_eq_true, Function.comp]
  intro c hc
  obtain ⟨f, h3⟩ := (h c hc).s
  simp only [eS3, plainD, List.all_cons, List.all_nil, Bool.and_true, plain_i]
  rw [h3]
  exact plain_Ln (wk.names f) 6
theorem plain_S1 (wk : w.Ok) {c : Cd} (h : Nd w p q c) : plainD 8 (eS3 c) = true := by
  obtain ⟨f, h3⟩ := h.s
  simp only [eS3, plainD, List.all_cons, List.all_nil, Bool.and_true, plain_i]
  rw [h3]
  exact plain_Ln (wk.names f) 6
theorem notIn_S (wk : w.Ok) {S : List Cd} {c : Cd} (h : ∀ c ∈ S, Nd w p q c) (hc : Nd w p q c) : oNotInL (eS3 c) (.lst (S.map eS3)) = some (.bl (!decide (c ∈ S))) := by
  simp only [oNotInL]
  rw [if_pos ⟨plain_S1 wk hc, plain_S wk h⟩]
  congr 3
  refine decide_eq_decide.mpr ⟨fun h => ?_, fun h => List.mem_map.mpr ⟨c, h, rfl⟩⟩
  obtain ⟨d, hd, e⟩ := List.mem_map.mp h
  rw [← eS3_inj e]; exact hd
theorem sub_parts0 (p : Pl) (ss : List Str) : oSub2 (.tup (p.parts ss)) (.int 0) = some (eG ss p.opens) := rfl
theorem sub_parts1 (p : Pl) (ss : List Str) : oSub2 (.tup (p.parts ss)) (.int 1) = some (p.eS ss) := rfl
theorem there_ev (wk : w.Ok) {δ : En} {l : List Str} {x : Str} (h4 : δ.sh 4 = some (eK w.spots)) (h6 : ∀ s, δ.length = 22 → ((δ.wipe [20]).put 20 (.sh (.str s))).any 6 = some (eW w.places w.letters fun p l => eL (w.way p l))) (h15 : δ.sh 15 = some (eL l)) (h18 : δ.sh 18 = some (.str x)) (hlen : δ.length = 22) (hl : ∀ p ∈ l, p ∈ w.places) (hx : x ∈ w.letters) :
    xLc (sDct (xVar 4) dKeys) [20] (gN 20) (tB (xL oAny (xsC (xLc (sLst (xVar 15)) [21] (gN 21) (tTrue) (x2 oIn (bVar 20) (x2 oSub2 (bVar 6) (xL oTup (xsC (xVar 21) (xsC (xVar 18) (xs0))))))) (xs0)))) (xVar 20) δ = some (eL (w.reach l x)) := by
  refine lc_keys (l := w.spots) h4 (by omega) fun s hs => ?_
  have a15 : ((δ.wipe [20]).put 20 (.sh (.str s))).sh 15 = some (eL l) := by
    unfold En.sh at h15 ⊢
    simp only [En.put, En.wipe, List.getElem?_set_ne (show (20 : Nat) ≠ 15 by decide)]
    exact h15
  have ev := lc_lst (a := xVar 15) (δ := (δ.wipe [20]).put 20 (.sh (.str s))) (i := 21) (f := x2 oIn (bVar 20) (x2 oSub2 (bVar 6) (xL oTup (xsC (xVar 21) (xsC (xVar 18) (xs0)))))) (h := fun p => .bl (decide (s ∈ w.way p x))) a15 fun p hp => by
    have b20 : ((((δ.wipe [20]).put 20 (.sh (.str s))).wipe [21]).put 21 (.sh (.str p))).any 20 = some (.str s) := by
      simp [En.any, En.put, En.wipe, hlen]
    have b21 : ((((δ.wipe [20]).put 20 (.sh (.str s))).wipe [21]).put 21 (.sh (.str p))).sh 21 = some (.str p) := by
      simp [En.sh, En.put, En.wipe, hlen]
    have b18 : ((((δ.wipe [20]).put 20 (.sh (.str s))).wipe [21]).put 21 (.sh (.str p))).sh 18 = some (.str x) := by
      unfold En.sh at h18 ⊢
      simp only [En.put, En.wipe, List.getElem?_set_ne (show (20 : Nat) ≠ 18 by decide), List.getElem?_set_ne (show (21 : Nat) ≠ 18 by decide)]
      exact h18
    have b6 : ((((δ.wipe [20]).put 20 (.sh (.str s))).wipe [21]).put 21 (.sh (.str p))).any 6 = some (eW w.places w.letters fun p l => eL (w.way p l)) := by
      have := h6 s hlen
      unfold En.any at this ⊢
      simp only [En.put, En.wipe, List.getElem?_set_ne (show (20 : Nat) ≠ 6 by decide), List.getElem?_set_ne (show (21 : Nat) ≠ 6 by decide)] at this ⊢
      exact this
    simp only [x2, bVar, xVar, xL, xsC, xs0, b20, b21, b18, b6, Option.bind_some, tup2, sub_W _ (hl p hp) hx, in_L]
  generalize xLc (sLst (xVar 15)) [21] (gN 21) (tTrue) (x2 oIn (bVar 20) (x2 oSub2 (bVar 6) (xL oTup (xsC (xVar 21) (xsC (xVar 18) (xs0)))))) = A at ev ⊢
  simp only [tB, xL, xsC, xs0, ev, Option.bind_some, any_map]
theorem turnB (wk : w.Ok) (hp : p.Ok w.signs w.letters) (hq : q.Ok w.signs w.letters) {x : Ky} (hx : Ok2 w p q x) {s : Str} (hs : s ∈ w.signs) {r : List Str} (hr : r.length ≤ 5000) {line : List D} {S : List Cd} (hS : ∀ c ∈ S, Nd w p q c) (hl : line.length ≤ 5000) (hl2 : S.length ≤ 5000) {C : K4} {x15 x16 x17 x18 x19 : Option Sl}
    (h0 : w.at_ x.1 s = [] → ∀ x15 x16 x17 x18 x19, C.nx (stB w p q line (S.map eS3) (some (.sh (eL r))) (some (.sh (eL x.1))) (some (.sh (eM1 x.2))) (some (.sh (eM2 x.2))) (some (.sh (.str s))) x15 x16 x17 x18 x19))
    (hT : w.at_ x.1 s ≠ [] → gtell p q (gf p x.2 s, gg q x.2 s, w.at_ x.1 s) = true → C.rt (eL (r ++ [s])))
    (hK : w.at_ x.1 s ≠ [] → gtell p q (gf p x.2 s, gg q x.2 s, w.at_ x.1 s) = false → (gf p x.2 s, gg q x.2 s, w.reach (w.at_ x.1 s) (p.st (gf p x.2 s)).1) ∈ S → ∀ x15 x16 x17 x18 x19, C.nx (stB w p q line (S.map eS3) (some (.sh (eL r))) (some (.sh (eL x.1))) (some (.sh (eM1 x.2))) (some (.sh (eM2 x.2))) (some (.sh (.str s))) x15 x16 x17 x18 x19))
    (hF : w.at_ x.1 s ≠ [] → gtell p q (gf p x.2 s, gg q x.2 s, w.at_ x.1 s) = false → (gf p x.2 s, gg q x.2 s, w.reach (w.at_ x.1 s) (p.st (gf p x.2 s)).1) ∉ S → ∀ x15 x16 x17 x18 x19, C.nx (stB w p q (line ++ [eLn (r ++ [s], gkey w p (gf p x.2 s, gg q x.2 s, w.at_ x.1 s))]) ((S ++ [(gf p x.2 s, gg q x.2 s, w.reach (w.at_ x.1 s) (p.st (gf p x.2 s)).1)]).map eS3) (some (.sh (eL r))) (some (.sh (eL x.1))) (some (.sh (eM1 x.2))) (some (.sh (eM2 x.2))) (some (.sh (.str s))) x15 x16 x17 x18 x19)) :
    bodyB C (stB w p q line (S.map eS3) (some (.sh (eL r))) (some (.sh (eL x.1))) (some (.sh (eM1 x.2))) (some (.sh (eM2 x.2))) (some (.sh (.str s))) x15 x16 x17 x18 x19) := by
  have hxi := gf_lt hp hx hs
  have hxj := gg_lt hq hx hs
  obtain ⟨⟨f0, hf0⟩, hi⟩ := hx
  obtain ⟨l, o⟩ := x
  dsimp only at *
  have hlp := in_places hf0
  generalize ei : gf p o s = i at *
  generalize ej : gg q o s = j at *
  have m1 := (hp.g _ (st_mem hxi)).1
  have m2 := (hq.g _ (st_mem hxj)).1
  refine ⟨.sh (eL (w.at_ l s)), ?_, ?_⟩
  · have ev := lc_list (a := xVar 11) (δ := stB w p q line (S.map eS3) (some (.sh (eL r))) (some (.sh (eL l))) (some (.sh (eM1 o))) (some (.sh (eM2 o))) (some (.sh (.str s))) x15 x16 x17 x18 x19) (i := 20) (t := tB (x2 oEq (x2 oSub2 (bVar 4) (xVar 20)) (bVar 14))) (b := fun p => decide (w.spots.lookup p = some s)) (l := l) rfl (by simp [stB]) fun y hy => by
      obtain ⟨t, h1, h2⟩ := spot_is wk (hlp y hy) (wk.sn s hs)
      simp only [tB, x2, bVar, xVar, En.any, En.sh, En.put, En.wipe, stB, List.set_cons_succ, List.set_cons_zero, List.getElem?_cons_succ, List.getElem?_cons_zero, Option.bind_some, h1, h2]
    exact congrArg (Option.map Sl.sh) ev
  show sThen (sIf _ _ _) _ _ (stB w p q line (S.map eS3) (some (.sh (eL r))) (some (.sh (eL l))) (some (.sh (eM1 o))) (some (.sh (eM2 o))) (some (.sh (.str s))) (some (.sh (eL (w.at_ l s)))) x16 x17 x18 x19)
  have an := at_names wk hlp s
  refine ⟨!decide (w.at_ l s = []), ?_, ?_⟩
  · simp only [tB, x2, lst0, bVar, En.any, stB, List.getElem?_cons_succ, List.getElem?_cons_zero, Option.bind_some, ne_L00 an]
  by_cases he : w.at_ l s = []
  · rw [decide_eq_true he]
    simp only [Bool.not_true, Bool.false_eq_true, if_false]
    exact h0 he _ _ _ _ _
  rw [decide_eq_false he]
  simp only [Bool.not_false, if_true]
  refine ⟨.sh (.int i), ?_, ?_⟩
  · have g1 : oSub2 (eG w.signs (gf p o)) (.str s) = some (.int i) := by rw [← ei]; exact sub_G _ hs
    cases o with
    | none =>
      simp only [nSh, xIf, tB, x1, x2, xC, bVar, xVar, En.any, En.sh, stB, List.getElem?_cons_succ, List.getElem?_cons_zero, Option.bind_some, eM1, oIsN, decide_true, if_true, sub_parts0]
      rw [show oSub2 (eG w.signs p.opens) (.str s) = some (.int i) from g1]
      rfl
    | some y =>
      have hy := (hi y rfl).1
      simp only [nSh, xIf, tB, x1, x2, xC, bVar, xVar, En.any, En.sh, stB, List.getElem?_cons_succ, List.getElem?_cons_zero, Option.bind_some, eM1, oIsN, reduceCtorEq, decide_false, Bool.false_eq_true, if_false, sub_parts1, ix_S _ hy, sub_st1]
      rw [show oSub2 (eG w.signs (p.st y.1).2) (.str s) = some (.int i) from g1]
      rfl
  show sThen (sSet 17 _) _ _ (stB w p q line (S.map eS3) (some (.sh (eL r))) (some (.sh (eL l))) (some (.sh (eM1 o))) (some (.sh (eM2 o))) (some (.sh (.str s))) (some (.sh (eL (w.at_ l s)))) (some (.sh (.int i))) x17 x18 x19)
  refine ⟨.sh (.int j), ?_, ?_⟩
  · have g1 : oSub2 (eG w.signs (gg q o)) (.str s) = some (.int j) := by rw [← ej]; exact sub_G _ hs
    cases o with
    | none =>
      simp only [nSh, xIf, tB, x1, x2, xC, bVar, xVar, En.any, En.sh, stB, List.getElem?_cons_succ, List.getElem?_cons_zero, Option.bind_some, eM2, oIsN, decide_true, if_true, sub_parts0]
      rw [show oSub2 (eG w.signs q.opens) (.str s) = some (.int j) from g1]
      rfl
    | some y =>
      have hy := (hi y rfl).2
      simp only [nSh, xIf, tB, x1, x2, xC, bVar, xVar, En.any, En.sh, stB, List.getElem?_cons_succ, List.getElem?_cons_zero, Option.bind_some, eM2, oIsN, reduceCtorEq, decide_false, Bool.false_eq_true, if_false, sub_parts1, ix_S _ hy, sub_st1]
      rw [show oSub2 (eG w.signs (q.st y.2).2) (.str s) = some (.int j) from g1]
      rfl
  show sThen (sSet 18 _) _ _ (stB w p q line (S.map eS3) (some (.sh (eL r))) (some (.sh (eL l))) (some (.sh (eM1 o))) (some (.sh (eM2 o))) (some (.sh (.str s))) (some (.sh (eL (w.at_ l s)))) (some (.sh (.int i))) (some (.sh (.int j))) x18 x19)
  refine ⟨.sh (.str (p.st i).1), ?_, ?_⟩
  · simp only [nSh, x2, xC, bVar, xVar, En.any, En.sh, stB, List.getElem?_cons_succ, List.getElem?_cons_zero, Option.bind_some, sub_parts1, ix_S _ hxi, sub_st0]
    rfl
  show sThen (sIf _ _ _) _ _ (stB w p q line (S.map eS3) (some (.sh (eL r))) (some (.sh (eL l))) (some (.sh (eM1 o))) (some (.sh (eM2 o))) (some (.sh (.str s))) (some (.sh (eL (w.at_ l s)))) (some (.sh (.int i))) (some (.sh (.int j))) (some (.sh (.str (p.st i).1))) x19)
  have l1 : oLst [D.str s] = some (eL [s]) := rfl
  have c1 : oPlus (eL r) (eL [s]) = some (eL (r ++ [s])) := cat_L r [s] (by
    have : r.length + 1 ≤ 5001 := by omega
    exact Nat.le_trans this (by decide))
  refine ⟨gtell p q (i, j, w.at_ l s), ?_, ?_⟩
  · simp only [tB, x2, xC, bVar, xVar, En.any, En.sh, stB, List.getElem?_cons_succ, List.getElem?_cons_zero, Option.bind_some, sub_parts1, ix_S _ hxj, sub_st0, ne_S (wk.ln _ m1) (wk.ln _ m2)]
    rfl
  cases ht : gtell p q (i, j, w.at_ l s) with
  | true =>
    rw [if_pos rfl]
    refine ⟨eL (r ++ [s]), ?_, hT he ht⟩
    simp only [x2, xL, xsC, xs0, xVar, En.sh, stB, List.getElem?_cons_succ, List.getElem?_cons_zero, Option.bind_some, l1, c1]
  | false =>
    rw [if_neg Bool.false_ne_true]
    have atp : ∀ y ∈ w.at_ l s, y ∈ w.places := fun y hy => hlp y (List.mem_filter.mp hy).1
    refine ⟨.sh (eL (w.reach (w.at_ l s) (p.st i).1)), ?_, ?_⟩
    · have ev := there_ev wk (δ := stB w p q line (S.map eS3) (some (.sh (eL r))) (some (.sh (eL l))) (some (.sh (eM1 o))) (some (.sh (eM2 o))) (some (.sh (.str s))) (some (.sh (eL (w.at_ l s)))) (some (.sh (.int i))) (some (.sh (.int j))) (some (.sh (.str (p.st i).1))) x19) rfl (fun _ _ => rfl) rfl rfl rfl atp m1
      exact congrArg (Option.map Sl.sh) ev
    show sThen (sIf _ _ _) _ _ (stB w p q line (S.map eS3) (some (.sh (eL r))) (some (.sh (eL l))) (some (.sh (eM1 o))) (some (.sh (eM2 o))) (some (.sh (.str s))) (some (.sh (eL (w.at_ l s)))) (some (.sh (.int i))) (some (.sh (.int j))) (some (.sh (.str (p.st i).1))) (some (.sh (eL (w.reach (w.at_ l s) (p.st i).1)))))
    have nc : Nd w p q (i, j, w.reach (w.at_ l s) (p.st i).1) := ⟨hxi, hxj, _, rfl⟩
    have key : ∀ sn : List D, xL oTup (xsC (xVar 19) (xsC (xVar 16) (xsC (xVar 17) (xs0)))) (stB w p q line sn (some (.sh (eL r))) (some (.sh (eL l))) (some (.sh (eM1 o))) (some (.sh (eM2 o))) (some (.sh (.str s))) (some (.sh (eL (w.at_ l s)))) (some (.sh (.int i))) (some (.sh (.int j))) (some (.sh (.str (p.st i).1))) (some (.sh (eL (w.reach (w.at_ l s) (p.st i).1))))) = some (eS3 (i, j, w.reach (w.at_ l s) (p.st i).1)) := fun sn => by
      simp only [xL, xsC, xs0, xVar, En.sh, stB, List.getElem?_cons_succ, List.getElem?_cons_zero, Option.bind_some, t3]
      rfl
    refine ⟨!decide ((i, j, w.reach (w.at_ l s) (p.st i).1) ∈ S), ?_, ?_⟩
    · simp only [tB, x2, key, bVar]
      simp only [En.any, stB, List.getElem?_cons_succ, List.getElem?_cons_zero, Option.bind_some, notIn_S wk hS nc]
    by_cases hk : (i, j, w.reach (w.at_ l s) (p.st i).1) ∈ S
    · rw [decide_eq_true hk]
      simp only [Bool.not_true, Bool.false_eq_true, if_false]
      exact hK he ht hk _ _ _ _ _
    rw [decide_eq_false hk]
    simp only [Bool.not_false, if_true]
    refine ⟨S.map eS3, eS3 (i, j, w.reach (w.at_ l s) (p.st i).1), rfl, key _, ?_, ?_⟩
    · rw [List.length_map]; exact Nat.lt_of_le_of_lt hl2 (by decide)
    have sm : ∀ a b c d e f g h i j k, En.put (stB w p q line (S.map eS3) a b c d e f g h i j) 9 (.ol (S.map eS3 ++ [k])) = stB w p q line (S.map eS3 ++ [k]) a b c d e f g h i j := fun _ _ _ _ _ _ _ _ _ _ _ => rfl
    rw [sm]
    refine ⟨line, eLn (r ++ [s], gkey w p (i, j, w.at_ l s)), rfl, ?_, Nat.lt_of_le_of_lt hl (by decide), ?_⟩
    · simp only [xL, xsC, xs0, x2, xVar, En.sh, stB, List.getElem?_cons_succ, List.getElem?_cons_zero, Option.bind_some, l1, c1, t4]
      rfl
    · have := hF he ht hk (some (.sh (eL (w.at_ l s)))) (some (.sh (.int i))) (some (.sh (.int j))) (some (.sh (.str (p.st i).1))) (some (.sh (eL (w.reach (w.at_ l s) (p.st i).1))))
      rw [List.map_append] at this
      exact this
end
end BP
namespace BP
open PySem
section
variable {w : Wb} {p q : Pl}
structure Sd (w : Wb) (p q : Pl) (Q E : List (List Str × Ky)) (S : List Cd) : Prop where
  seen : ∀ c ∈ S, ∃ v, (v, toK c) ∈ E ∨ (v, toK c) ∈ Q
  nd : S.Nodup
  ok : ∀ c ∈ S, Nd w p q c
  len : ∀ e ∈ Q, e.1.length ≤ S.length
  ql : Q.length ≤ S.length + 1
theorem Sd.few (wk : w.Ok) {ls : List Str} (hp : p.Ok w.signs ls) (hq : q.Ok w.signs ls) {Q E : List (List Str × Ky)} {S : List Cd} (h : Sd w p q Q E S) : S.length ≤ 4096 := nd_few wk hp hq h.nd h.ok
abbrev InG (w : Wb) (p q : Pl) := In (gkk w p q) (gkey w p) (groot w) (gtell p q)
theorem loopB (wk : w.Ok) (hp : p.Ok w.signs w.letters) (hq : q.Ok w.signs w.letters) {x : Ky} (hx : Ok2 w p q x) {r : List Str} {C : K4} {E : List (List Str × Ky)} (hT : ∀ t, ApartIs w p q (some t) → C.rt (eL t)) : ∀ (ss : List Str) (don : List (Str × Cd)) (Q : List (List Str × Ky)) (S : List Cd) (x14 x15 x16 x17 x18 x19 : Option Sl), (∀ s ∈ ss, s ∈ w.signs) → InG w p q r x don (candsOn w x.1 ss (gf p x.2) (gg q x.2)) Q E → Sd w p q Q ((r, x) :: E) S → r.length ≤ S.length →
    (∀ don' Q' S' x14 x15 x16 x17 x18 x19, InG w p q r x don' [] Q' E → Sd w p q Q' ((r, x) :: E) S' → Q'.length + S.length = Q.length + S'.length → S.length ≤ S'.length → C.nx (stB w p q (Q'.map eLn) (S'.map eS3) (some (.sh (eL r))) (some (.sh (eL x.1))) (some (.sh (eM1 x.2))) (some (.sh (eM2 x.2))) x14 x15 x16 x17 x18 x19)) →
    sForL (gN 14) bodyB C (ss.map .str) (stB w p q (Q.map eLn) (S.map eS3) (some (.sh (eL r))) (some (.sh (eL x.1))) (some (.sh (eM1 x.2))) (some (.sh (eM2 x.2))) x14 x15 x16 x17 x18 x19)
  | [], don, Q, S, x14, x15, x16, x17, x18, x19, _, I, sd, hr, h => h don Q S x14 x15 x16 x17 x18 x19 I sd rfl (Nat.le_refl _)
  | s :: ss, don, Q, S, x14, x15, x16, x17, x18, x19, hs, I, sd, hr, h => by
    have s1 := hs s (by simp)
    have fw := sd.few wk hp hq
    have ql := sd.ql
    have go1 : ∀ don' Q' S' y15 y16 y17 y18 y19, InG w p q r x don' (candsOn w x.1 ss (gf p x.2) (gg q x.2)) Q' E → Sd w p q Q' ((r, x) :: E) S' → r.length ≤ S'.length → Q'.length + S.length = Q.length + S'.length → S.length ≤ S'.length →
        sForL (gN 14) bodyB C (ss.map .str) (stB w p q (Q'.map eLn) (S'.map eS3) (some (.sh (eL r))) (some (.sh (eL x.1))) (some (.sh (eM1 x.2))) (some (.sh (eM2 x.2))) (some (.sh (.str s))) y15 y16 y17 y18 y19) := fun don' Q' S' y15 y16 y17 y18 y19 I' sd' hr' hQ' hS' =>
      loopB wk hp hq hx hT ss don' Q' S' _ y15 y16 y17 y18 y19 (fun a ha => hs a (by simp [ha])) I' sd' hr' fun d2 Q2 S2 a b c d e f I2 sd2 hq2 hs2 => h d2 Q2 S2 a b c d e f I2 sd2 (by omega) (by omega)
    refine ⟨stB w p q (Q.map eLn) (S.map eS3) (some (.sh (eL r))) (some (.sh (eL x.1))) (some (.sh (eM1 x.2))) (some (.sh (eM2 x.2))) (some (.sh (.str s))) x15 x16 x17 x18 x19, rfl, ?_⟩
    have c0 : w.at_ x.1 s = [] → candsOn w x.1 (s :: ss) (gf p x.2) (gg q x.2) = candsOn w x.1 ss (gf p x.2) (gg q x.2) := fun he => by
      unfold candsOn
      rw [List.filter_cons, if_neg (by simp [he])]
    have c1 : w.at_ x.1 s ≠ [] → candsOn w x.1 (s :: ss) (gf p x.2) (gg q x.2) = (s, (gf p x.2 s, gg q x.2 s, w.at_ x.1 s)) :: candsOn w x.1 ss (gf p x.2) (gg q x.2) := fun he => by
      unfold candsOn
      rw [List.filter_cons, if_pos (by simp [he])]
      rfl
    refine turnB wk hp hq hx s1 (by omega) sd.ok (by rw [List.length_map]; omega) (by omega) (fun he y15 y16 y17 y18 y19 => ?_) (fun he ht => ?_) (fun he ht hk y15 y16 y17 y18 y19 => ?_) fun he ht hk y15 y16 y17 y18 y19 => ?_
    · rw [c0 he] at I
      exact go1 don Q S y15 y16 y17 y18 y19 I sd hr rfl (Nat.le_refl _)
    · rw [c1 he] at I
      exact hT _ (I.tells ht)
    · rw [c1 he] at I
      obtain ⟨v, hv⟩ := sd.seen _ hk
      exact go1 _ Q S y15 y16 y17 y18 y19 (I.known ht ⟨v, hv⟩) sd hr rfl (Nat.le_refl _)
    · rw [c1 he] at I
      have I' := I.fresh ht
      have hc : Nd w p q (gf p x.2 s, gg q x.2 s, w.reach (w.at_ x.1 s) (p.st (gf p x.2 s)).1) := ⟨gf_lt hp hx s1, gg_lt hq hx s1, _, rfl⟩
      have sd' : Sd w p q (Q ++ [(r ++ [s], gkey w p (gf p x.2 s, gg q x.2 s, w.at_ x.1 s))]) ((r, x) :: E) (S ++ [(gf p x.2 s, gg q x.2 s, w.reach (w.at_ x.1 s) (p.st (gf p x.2 s)).1)]) := by
        refine ⟨fun c hc => ?_, List.nodup_append.mpr ⟨sd.nd, by simp, fun a ha b hb e => hk ?_⟩, fun c hc' => ?_, fun e he => ?_, ?_⟩
        · rcases List.mem_append.mp hc with hc | hc
          · obtain ⟨v, hv⟩ := sd.seen c hc
            exact ⟨v, hv.imp id fun h => List.mem_append_left _ h⟩
          · simp only [List.mem_singleton] at hc
            subst hc
            exact ⟨r ++ [s], .inr (List.mem_append_right _ (by simp [toK, gkey]))⟩
        · simp only [List.mem_singleton] at hb
          rw [← hb, ← e]; exact ha
        · rcases List.mem_append.mp hc' with hc' | hc'
          · exact sd.ok c hc'
          · simp only [List.mem_singleton] at hc'
            rw [hc']; exact hc
        · rw [List.length_append, List.length_singleton]
          rcases List.mem_append.mp he with he | he
          · have := sd.len e he; omega
          · simp only [List.mem_singleton] at he
            subst he
            simp only [List.length_append, List.length_singleton]; omega
        · simp only [List.length_append, List.length_singleton]; omega
      have := go1 _ _ _ y15 y16 y17 y18 y19 I' sd' (by rw [List.length_append]; omega) (by simp only [List.length_append, List.length_singleton]; omega) (by rw [List.length_append]; omega)
      rw [List.map_append] at this
      exact this
theorem bl_ok2 {ls : List Str} (hp : p.Ok w.signs ls) (hq : q.Ok w.signs ls) {e : List Str × Ky} (h : e = ([], groot w) ∨ ∃ c, RchK (gkk w p q) (gkey w p) (groot w) (gtell p q) e.1 c ∧ gtell p q c = false ∧ gkey w p c = e.2) : (∀ x ∈ e.1, x ∈ w.signs) ∧ Ok2 w p q e.2 := by
  rcases h with rfl | ⟨c, h1, _, h2⟩
  · exact ⟨fun x hx => by simp at hx, ⟨_, rfl⟩, fun y h => by cases h⟩
  · obtain ⟨h3, h4⟩ := rch_nd hp hq h1
    refine ⟨h3, ?_⟩
    rw [← h2]
    exact ⟨⟨_, rfl⟩, fun y h => by cases h; exact ⟨h4.i, h4.j⟩⟩
theorem plain_Ln8 (wk : w.Ok) {Q : List (List Str × Ky)} (h : ∀ e ∈ Q, (∀ x ∈ e.1, x ∈ w.signs) ∧ Ok2 w p q e.2) : plainD 8 (.lst (Q.map eLn)) = true := by
  simp only [plainD, List.all_map, List.all_eq_true, Function.comp]
  intro e he
  obtain ⟨h1, ⟨f, h2⟩, _⟩ := h e he
  have m1 : ∀ n o, plainD n (eM1 o) = true := fun n o => by cases o <;> cases n <;> rfl
  have m2 : ∀ n o, plainD n (eM2 o) = true := fun n o => by cases o <;> cases n <;> rfl
  simp only [eLn, plainD, List.all_cons, List.all_nil, Bool.and_true, m1, m2, Bool.and_eq_true]
  exact ⟨plain_Ln (fun x hx => wk.sn x (h1 x hx)) 5, by rw [h2]; exact plain_Ln (wk.names f) 5⟩
theorem cut_tail (d : D) (l : List D) : cut (d :: l) (some 1) none = l := by
  unfold cut clip
  simp
theorem ex_law_due5 (wk : w.Ok) (hp : p.Ok w.signs w.letters) (hq : q.Ok w.signs w.letters) : ∃ o, ApartIs w p q o ∧ F__law_due5 [.tup w.parts, .tup (p.parts w.signs), .tup (q.parts w.signs)] = some (eRow o) := by
  have main : T__law_due5 (KS (ApartIs w p q)) (startE 22 [.tup w.parts, .tup (p.parts w.signs), .tup (q.parts w.signs)]) := by
    have e1 : startE 22 [.tup w.parts, .tup (p.parts w.signs), .tup (q.parts w.signs)] = [some (.sh (.tup w.parts)), some (.sh (.tup (p.parts w.signs))), some (.sh (.tup (q.parts w.signs))), none, none, none, none, none, none, none, none, none, none, none, none, none, none, none, none, none, none, none] := rfl
    rw [e1]
    refine ⟨.tup w.parts, rfl, [some (.sh (.tup w.parts)), some (.sh (.tup (p.parts w.signs))), some (.sh (.tup (q.parts w.signs))), some (.sh (eL w.letters)), some (.sh (eK w.spots)), some (.sh (eL w.begins)), some (.sh (eW w.places w.letters fun p l => eL (w.way p l))), none, none, none, none, none, none, none, none, none, none, none, none, none, none, none], rfl, ?_⟩
    refine ⟨.sh (eL w.signs), ?_, ?_⟩
    · exact congrArg (Option.map Sl.sh) (signs_law w wk (a := bVar 4) (δ := [some (.sh (.tup w.parts)), some (.sh (.tup (p.parts w.signs))), some (.sh (.tup (q.parts w.signs))), some (.sh (eL w.letters)), some (.sh (eK w.spots)), some (.sh (eL w.begins)), some (.sh (eW w.places w.letters fun p l => eL (w.way p l))), none, none, none, none, none, none, none, none, none, none, none, none, none, none, none]) rfl)
    show sThen (sPar2 8 9 _) _ _ [some (.sh (.tup w.parts)), some (.sh (.tup (p.parts w.signs))), some (.sh (.tup (q.parts w.signs))), some (.sh (eL w.letters)), some (.sh (eK w.spots)), some (.sh (eL w.begins)), some (.sh (eW w.places w.letters fun p l => eL (w.way p l))), some (.sh (eL w.signs)), none, none, none, none, none, none, none, none, none, none, none, none, none, none]
    refine ⟨.ol [eLn ([], groot w)], .ol [], ?_, ?_⟩
    · have ev := lc_keys (a := xVar 4) (δ := [some (.sh (.tup w.parts)), some (.sh (.tup (p.parts w.signs))), some (.sh (.tup (q.parts w.signs))), some (.sh (eL w.letters)), some (.sh (eK w.spots)), some (.sh (eL w.begins)), some (.sh (eW w.places w.letters fun p l => eL (w.way p l))), some (.sh (eL w.signs)), none, none, none, none, none, none, none, none, none, none, none, none, none, none]) (i := 20) (t := tB (x2 oIn (bVar 20) (bVar 5))) (b := fun y => decide (y ∈ w.begins)) (l := w.spots) rfl (by simp) fun y hy => by simp [tB, x2, bVar, En.any, En.put, En.wipe, in_L]
      simp only [nsC, nL, fLst, nL0, ns0, xL, xsC, xs0, xC, Option.bind_some]
      rw [ev]
      have l0 : oLst [] = some (.lst []) := rfl
      simp only [Option.bind_some, l0, t4]
      rfl
    show sThen (sWhile _ _) _ _ (stB w p q ([([], groot w)].map eLn) (([] : List Cd).map eS3) none none none none none none none none none none)
    let W : Nat → En → Prop := fun m δ => ∃ (Q E : List (List Str × Ky)) (S : List Cd) (x10 x11 x12 x13 x14 x15 x16 x17 x18 x19 : Option Sl), δ = stB w p q (Q.map eLn) (S.map eS3) x10 x11 x12 x13 x14 x15 x16 x17 x18 x19 ∧ Bl (gkk w p q) (gkey w p) (groot w) (gtell p q) Q E ∧ Sd w p q Q E S ∧ m = Q.length + 2 * (4096 - S.length)
    refine ⟨W, ⟨_, [([], groot w)], [], [], _, _, _, _, _, _, _, _, _, _, rfl, Bl.init, ⟨by simp, by simp, by simp, by simp, by simp⟩, rfl⟩, ?_⟩
    rintro m δ ⟨Q, E, S, x10, x11, x12, x13, x14, x15, x16, x17, x18, x19, rfl, B, sd, rfl⟩
    have hQ : ∀ e ∈ Q, (∀ x ∈ e.1, x ∈ w.signs) ∧ Ok2 w p q e.2 := fun e he => bl_ok2 hp hq (B.a e he)
    refine ⟨!decide (Q = []), ?_, ?_⟩
    · simp only [tB, x2, lst0, bVar, En.any, stB, List.getElem?_cons_succ, List.getElem?_cons_zero, Option.bind_some, ne_nil _ _ (plain_Ln8 wk hQ)]
    cases Q with
    | nil =>
      simp only [decide_true, Bool.not_true, Bool.false_eq_true, if_false]
      exact ⟨.non, rfl, none, B.ends, rfl⟩
    | cons e Q =>
      obtain ⟨r, x⟩ := e
      rw [decide_eq_false (by simp), Bool.not_false, if_pos rfl]
      obtain ⟨hrs, hx⟩ := hQ _ (List.mem_cons_self)
      have hr0 : r.length ≤ S.length := sd.len (r, x) List.mem_cons_self
      refine ⟨eLn (r, x), .ol (Q.map eLn), stB w p q (((r, x) :: Q).map eLn) (S.map eS3) (some (.sh (eL r))) (some (.sh (eL x.1))) (some (.sh (eM1 x.2))) (some (.sh (eM2 x.2))) x14 x15 x16 x17 x18 x19, ?_, rfl, ?_⟩
      · have i0 : oSub2 (.lst (((r, x) :: Q).map eLn)) (.int 0) = some (eLn (r, x)) := by
          simp only [oSub2, oIx, nix, List.map_cons, List.length_cons]
          rw [if_pos (by decide), if_pos (by omega)]
          rfl
        have i1 : cut (((r, x) :: Q).map eLn) (some 1) none = Q.map eLn := by rw [List.map_cons]; exact cut_tail _ _
        simp only [nsC, nSh, nL, fCut, ns0, po1, po0, xC, x2, bVar, En.any, stB, List.getElem?_cons_succ, List.getElem?_cons_zero, Option.bind_some, i0, i1]
        rfl
      show sThen (sFor _ _ bodyB) _ _ (stB w p q (Q.map eLn) (S.map eS3) (some (.sh (eL r))) (some (.sh (eL x.1))) (some (.sh (eM1 x.2))) (some (.sh (eM2 x.2))) x14 x15 x16 x17 x18 x19)
      refine ⟨w.signs.map .str, rfl, ?_⟩
      have up := gkk_up w p q x
      have I := B.enter up
      rw [gkk_is] at I
      have sd' : Sd w p q Q ((r, x) :: E) S := by
        refine ⟨fun c hc => ?_, sd.nd, sd.ok, fun e he => sd.len e (by simp [he]), ?_⟩
        · obtain ⟨v, hv⟩ := sd.seen c hc
          rcases hv with hv | hv
          · exact ⟨v, .inl (by simp [hv])⟩
          · rcases List.mem_cons.mp hv with e | hv
            · exact ⟨v, .inl (by rw [e]; simp)⟩
            · exact ⟨v, .inr hv⟩
        · have := sd.ql
          simp only [List.length_cons] at this
          omega
      refine loopB wk hp hq hx (fun t ht => by exact ⟨some t, ht, rfl⟩) w.signs [] Q S _ _ _ _ _ _ (fun _ h => h) I sd' hr0 fun don' Q' S' y14 y15 y16 y17 y18 y19 I' sd2 hQ' hS' => ?_
      have f2 := sd2.few wk hp hq
      refine ⟨Q'.length + 2 * (4096 - S'.length), ?_, Q', (r, x) :: E, S', _, _, _, _, _, _, _, _, _, _, rfl, I'.leave, sd2, rfl⟩
      have f1 := sd.few wk hp hq
      have := sd.ql
      simp only [List.length_cons] at this ⊢
      omega
  obtain ⟨o, h1, h2⟩ := ks_one dt__law_due5 (fun o o' => apart_one) main
  exact ⟨o, h1, FU_is dt__law_due5 rfl h2⟩
end
end BP
namespace BP
open PySem
section
variable {w : Wb} {p q : Pl}
theorem cands_swap {l : List Str} {f g : Str → Nat} {k : Str × Cd} (h : k ∈ w.cands l f g) : (k.1, (k.2.2.1, k.2.1, k.2.2.2)) ∈ w.cands l g f := by
  obtain ⟨s, hs, rfl⟩ := List.mem_map.mp h
  exact List.mem_map.mpr ⟨s, hs, rfl⟩
theorem tell_swap (c : Cd) : gtell q p (c.2.1, c.1, c.2.2) = gtell p q c := by
  unfold gtell
  congr 1
  exact decide_eq_decide.mpr ⟨Eq.symm, Eq.symm⟩
theorem rch_swap {r : List Str} {c : Cd} (h : Rch (gkk w p q (groot w)) (fun c => gkk w p q (gkey w p c)) (gtell p q) r c) : Rch (gkk w q p (groot w)) (fun c => gkk w q p (gkey w q c)) (gtell q p) r (c.2.1, c.1, c.2.2) := by
  induction h with
  | @one k hk => exact Rch.one (k := (k.1, (k.2.2.1, k.2.1, k.2.2.2))) (cands_swap hk)
  | @more r c k h n hk ih =>
    refine Rch.more (k := (k.1, (k.2.2.1, k.2.1, k.2.2.2))) ih (by rw [tell_swap]; exact n) ?_
    have e : (p.st c.1).1 = (q.st c.2.1).1 := by
      unfold gtell at n
      simpa using n
    have := cands_swap (w := w) (l := w.reach c.2.2 (p.st c.1).1) (f := (p.st c.1).2) (g := (q.st c.2.1).2) hk
    rw [e] at this
    exact this
theorem apart_swap {o : Option (List Str)} (h : ApartIs w p q o) : ApartIs w q p o := by
  cases o with
  | none =>
    intro r c hc
    have := h r _ (rch_swap hc)
    rw [tell_swap] at this
    exact this
  | some r =>
    obtain ⟨⟨c, h1, h2⟩, h3⟩ := h
    exact ⟨⟨_, rch_swap h1, by rw [tell_swap]; exact h2⟩, fun u c' h4 h5 => h3 u _ (rch_swap h4) (by rw [tell_swap]; exact h5)⟩
theorem rch_self {r : List Str} {c : Cd} (h : Rch (gkk w p p (groot w)) (fun c => gkk w p p (gkey w p c)) (gtell p p) r c) : c.2.1 = c.1 := by
  have key : ∀ {l : List Str} {f : Str → Nat} {k : Str × Cd}, k ∈ w.cands l f f → k.2.2.1 = k.2.1 := fun {l f k} h => by
    obtain ⟨s, hs, rfl⟩ := List.mem_map.mp h
    rfl
  induction h with
  | @one k hk => exact key hk
  | @more r c k h n hk ih =>
    have hk : k ∈ w.cands (w.reach c.2.2 (p.st c.1).1) (p.st c.1).2 (p.st c.2.1).2 := hk
    rw [ih] at hk
    exact key hk
theorem apart_self : ApartIs w p p none := fun r c h => by
  unfold gtell
  rw [rch_self h]
  simp
end
theorem ints_zs {many : Nat} (hm : 0 < many) : ∀ zs : List (Str × D), (∀ z ∈ zs, ∃ v : Nat, v < many ∧ z.2 = .tup [.str z.1, .int v]) → (zs.map (·.1)).Nodup → ∃ f : Str → Nat, (∀ s, f s < many) ∧ zs.map (·.2) = (zs.map (·.1)).map fun s => D.tup [.str s, .int (f s)]
  | [], _, _ => ⟨fun _ => 0, fun _ => hm, rfl⟩
  | z :: r, h, nd => by
    rw [List.map_cons, List.nodup_cons] at nd
    obtain ⟨f, h1, h2⟩ := ints_zs hm r (fun y hy => h y (by simp [hy])) nd.2
    obtain ⟨v, hv, e⟩ := h z (by simp)
    refine ⟨fun s => if s = z.1 then v else f s, fun s => ?_, ?_⟩
    · dsimp only
      split
      · exact hv
      · exact h1 s
    · simp only [List.map_cons, if_true, e, h2]
      congr 1
      refine List.map_congr_left fun s hs => ?_
      rw [if_neg (fun q => nd.1 (by rw [← q]; exact hs))]
theorem pairs_G (ss : List Str) (f : Str → Nat) : pairsOf (ss.map fun s => D.tup [.str s, .int (f s)]) = some (ss.map fun s => (D.str s, D.int (f s))) := by
  induction ss with
  | nil => rfl
  | cons p r ih => simp [pairsOf, keyOk, ih]
theorem dictG {ss : List Str} (f : Str → Nat) (hl : ss.length ≤ 1000) (nd : ss.Nodup) : oDictP [.lst (ss.map fun s => D.tup [.str s, .int (f s)])] = some (eG ss f) := by
  simp only [oDictP, List.length_map]
  rw [if_pos (most_ge hl), pairs_G, Option.map_some, fold_put _ [] ?_]
  · rfl
  · have := str_nodup nd
    simpa [List.map_map, Function.comp_def] using this
/-- dict([(x, v) for i, x in enumerate(names)]) -/
theorem dict_enum {a : Ex} {δ : En} {names : List Str} {i j : Nat} {f : Ex} {many : Nat} (hm : 0 < many) (h : a δ = some (eL names)) (hl : names.length ≤ 1000) (nd : names.Nodup)
    (hf : ∀ (n : Nat) x, n < names.length → x ∈ names → ∃ v : Nat, v < many ∧ f (((δ.wipe [i, j]).put i (.sh (.int n))).put j (.sh (.str x))) = some (.tup [.str x, .int v])) :
    ∃ g : Str → Nat, (∀ s, g s < many) ∧ xL oDictP (xsC (xLc (sEnumA (xsC a xs0)) [i, j] (gT (gsC (gN i) (gsC (gN j) (gs0)))) tTrue f) xs0) δ = some (eG names g) := by
  obtain ⟨zs, s1, s2, s3, s4⟩ := cL_enum (g := gT (gsC (gN i) (gsC (gN j) (gs0)))) (p := tTrue) (f := f) (δ := δ.wipe [i, j]) (fun x y => ∃ v : Nat, v < many ∧ y = .tup [.str x, .int v]) names 0 fun n x hn hx => by
    obtain ⟨v, h1, h2⟩ := hf n x (by omega) hx
    exact ⟨_, true, rfl, rfl, fun _ => ⟨_, h2, v, h1, rfl⟩⟩
  have e := s4 rfl
  obtain ⟨g, g1, g2⟩ := ints_zs hm zs s3 (by rw [e]; exact nd)
  refine ⟨g, g1, ?_⟩
  simp only [xL, xsC, xs0, xLc]
  rw [enumA δ a names h]
  simp only [Option.bind_some, s2, Option.map_some, g2, e]
  exact dictG g hl nd
theorem mod_n (a : Int) {n : Nat} (h : 0 < n) : ∃ v : Nat, v < n ∧ a % (n : Int) = v := by
  have := md a n (by omega)
  exact ⟨(a % n).toNat, by omega, by omega⟩
def planT : Tt := (sThen (sSet 7 (nSh (xL oDictP (xsC (xLc (sEnumA (xsC (xVar 2) (xs0))) [8, 9] (gT (gsC (gN 8) (gsC (gN 9) (gs0)))) (tTrue) (xL oTup (xsC (xVar 9) (xsC (x2 oMod (x2 oDiv (x2 oSub2 (bVar 0) (x2 oMod (x2 oPlus (x2 oPlus (x2 oMul (bVar 6) (xC (.int 5))) (xVar 8)) (xC (.int 6))) (xL oLen (xsC (bVar 0) (xs0))))) (xC (.int 7))) (bVar 3)) (xs0))))) (xs0))))) (sThen (sApp 5 (xL oTup (xsC (x2 oSub2 (bVar 1) (x2 oMod (x2 oSub2 (bVar 0) (x2 oMod (x2 oPlus (xVar 6) (xC (.int 3))) (xL oLen (xsC (bVar 0) (xs0))))) (xL oLen (xsC (bVar 1) (xs0))))) (xsC (xVar 7) (xs0))))) (sNext)))
/-- a step that may stand -/
def stOk (ss ls : List Str) (many : Nat) (st : Str × (Str → Nat)) : Prop := st.1 ∈ ls ∧ ∀ s ∈ ss, st.2 s < many
theorem ex_law_plan (dr : List Int) (ls ss : List Str) (many : Nat) (hd : 7 ≤ dr.length) (hl : ls ≠ []) (h6 : ss.length ≤ 6) (nd : ss.Nodup) (hm : 1 ≤ many ∧ many ≤ 8) : ∃ pl : Pl, F__law_plan [eI dr, eL ls, eL ss, .int many] = some (.tup (pl.parts ss)) ∧ pl.Ok ss ls ∧ pl.line.length = many := by
  have l1 : 0 < ls.length := List.length_pos_iff.mpr hl
  have e1 : startE 10 [eI dr, eL ls, eL ss, .int many] = [some (.sh (eI dr)), some (.sh (eL ls)), some (.sh (eL ss)), some (.sh (.int many)), none, none, none, none, none, none] := rfl
  have at_ : ∀ c : Int, ∃ v, oSub2 (eI dr) (.int (c % (dr.length : Int))) = some (.int v) := fun c => by
    have := md c dr.length (by omega)
    obtain ⟨v, _, h⟩ := sub_I dr (c % dr.length) this.1 this.2
    exact ⟨v, h⟩
  obtain ⟨op, o1, o2⟩ := dict_enum (a := xVar 2) (δ := [some (.sh (eI dr)), some (.sh (eL ls)), some (.sh (eL ss)), some (.sh (.int many)), none, none, none, none, none, none]) (names := ss) (i := 8) (j := 9) (f := xL oTup (xsC (xVar 9) (xsC (x2 oMod (x2 oSub2 (bVar 0) (xVar 8)) (bVar 3)) (xs0)))) (many := many) (by omega) rfl (by omega) nd fun n x hn hx => by
    obtain ⟨v, _, hv⟩ := sub_I dr n (by omega) (by omega)
    obtain ⟨u, h1, h2⟩ := mod_n v (n := many) (by omega)
    refine ⟨u, h1, ?_⟩
    simp only [xL, xsC, xs0, x2, xVar, bVar, En.sh, En.any, En.put, En.wipe, List.set_cons_succ, List.set_cons_zero, List.getElem?_cons_succ, List.getElem?_cons_zero, Option.bind_some, hv, mod_i v many (by omega), h2, tup2]
  let St : List (Str × (Str → Nat)) → Option Sl → Option Sl → En := fun acc x6 x7 => [some (.sh (eI dr)), some (.sh (eL ls)), some (.sh (eL ss)), some (.sh (.int many)), some (.sh (eG ss op)), some (.ol (acc.map (eSt ss))), x6, x7, none, none]
  have turn : ∀ (acc : List (Str × (Str → Nat))) (t : Int) (x7 : Option Sl), acc.length ≤ 1000 → ∃ st x7', stOk ss ls many st ∧ ∀ C : K4, C.nx (St (acc ++ [st]) (some (.sh (.int t))) x7') → planT C (St acc (some (.sh (.int t))) x7) := by
    intro acc t x7 ha
    obtain ⟨g, g1, g2⟩ := dict_enum (a := xVar 2) (δ := St acc (some (.sh (.int t))) x7) (names := ss) (i := 8) (j := 9) (f := xL oTup (xsC (xVar 9) (xsC (x2 oMod (x2 oDiv (x2 oSub2 (bVar 0) (x2 oMod (x2 oPlus (x2 oPlus (x2 oMul (bVar 6) (xC (.int 5))) (xVar 8)) (xC (.int 6))) (xL oLen (xsC (bVar 0) (xs0))))) (xC (.int 7))) (bVar 3)) (xs0)))) (many := many) (by omega) rfl (by omega) nd fun n x hn hx => by
      obtain ⟨v, hv⟩ := at_ (t * 5 + n + 6)
      obtain ⟨u, h1, h2⟩ := mod_n (v / 7) (n := many) (by omega)
      refine ⟨u, h1, ?_⟩
      simp only [xL, xsC, xs0, xC, x2, xVar, bVar, En.sh, En.any, En.put, En.wipe, St, List.set_cons_succ, List.set_cons_zero, List.getElem?_cons_succ, List.getElem?_cons_zero, Option.bind_some, mul_r t 5 (by decide), plus_i, len_I, mod_i _ (dr.length : Int) (by omega), hv, div_i v 7 (by decide), mod_i (v / 7) many (by omega), h2, tup2]
    obtain ⟨v, hv⟩ := at_ (t + 3)
    have mv := md v ls.length (by omega)
    obtain ⟨x, hx, ex⟩ := sub_L ls (v % ls.length) mv.1 mv.2
    refine ⟨(x, g), some (.sh (eG ss g)), ⟨hx, fun s _ => g1 s⟩, fun C hC => ?_⟩
    refine ⟨.sh (eG ss g), congrArg (Option.map Sl.sh) g2, acc.map (eSt ss), eSt ss (x, g), rfl, ?_, ?_, ?_⟩
    · simp only [xL, xsC, xs0, xC, x2, xVar, bVar, En.sh, En.any, En.put, St, List.set_cons_succ, List.set_cons_zero, List.getElem?_cons_succ, List.getElem?_cons_zero, Option.bind_some, plus_i, len_I, mod_i _ (dr.length : Int) (show (0 : Int) < dr.length by omega), hv, len_L, mod_i v (ls.length : Int) (show (0 : Int) < ls.length by omega), ex, tup2]
      rfl
    · rw [List.length_map]; exact Nat.lt_of_le_of_lt ha (by decide)
    · have hC' := hC
      simp only [St, List.map_append] at hC'
      exact hC'
  have loop : ∀ (n : Nat) (t0 : Int) (acc : List (Str × (Str → Nat))) (x6 x7 : Option Sl), acc.length + n ≤ 1000 → ∃ more : List (Str × (Str → Nat)), more.length = n ∧ (∀ st ∈ more, stOk ss ls many st) ∧ ∀ C : K4, (∀ x6 x7, C.nx (St (acc ++ more) x6 x7)) → sForL (gN 6) planT C (upTo t0 n) (St acc x6 x7) := by
    intro n
    induction n with
    | zero => intro t0 acc x6 x7 _; exact ⟨[], rfl, by simp, fun C h => by
        have := h x6 x7
        rw [List.append_nil] at this
        exact this⟩
    | succ n ih =>
      intro t0 acc x6 x7 h2
      obtain ⟨st, x7', hs, hst⟩ := turn acc t0 x7 (by omega)
      obtain ⟨more, hl, ho, hm⟩ := ih (t0 + 1) (acc ++ [st]) (some (.sh (.int t0))) x7' (by simp; omega)
      refine ⟨st :: more, by simp [hl], fun y hy => ?_, fun C h => ⟨St acc (some (.sh (.int t0))) x7, rfl, hst _ (hm C ?_)⟩⟩
      · rcases List.mem_cons.mp hy with rfl | hy
        · exact hs
        · exact ho y hy
      intro x6 x7
      have := h x6 x7
      simpa using this
  obtain ⟨more, hl, ho, hmore⟩ := loop many 0 [] none none (by simp; omega)
  refine ⟨⟨op, more⟩, FU_is dt__law_plan rfl ?_, ⟨by simp only [hl]; omega, by simp only [hl]; omega, fun s _ => by simp only [hl]; exact o1 s, fun st hst => by simp only [hl]; exact ho st hst⟩, hl⟩
  rw [e1]
  refine ⟨.sh (eG ss op), congrArg (Option.map Sl.sh) o2, .ol [], rfl, ?_⟩
  show sThen (sFor _ _ planT) _ _ (St [] none none)
  refine ⟨upTo 0 many, ?_, hmore _ fun x6 x7 => ⟨.lst (more.map (eSt ss)), rfl, .tup ((⟨op, more⟩ : Pl).parts ss), ?_, rfl⟩⟩
  · simp only [sRange1, xsC, xs0, xVar, En.sh, St, List.getElem?_cons_succ, List.getElem?_cons_zero, Option.bind_some]
    rw [if_pos ⟨by omega, by omega⟩]
    simp
  · simp only [xL, xsC, xs0, xVar, En.sh, En.put, St, List.nil_append, List.set_cons_succ, List.set_cons_zero, List.getElem?_cons_succ, List.getElem?_cons_zero, Option.bind_some, tup2]
    rfl
end BP
namespace BP
open PySem
def gK (ss : List Str) (f : Str → Nat) : List (D × D) := ss.map fun s => (.str s, .int (f s))
/-- dict([(x, v) for x in d]) -/
theorem dict_keys {a : Ex} {δ : En} {ss : List Str} {f f' : Str → Nat} {i : Nat} {v : Ex} (h : a δ = some (eG ss f)) (hl : ss.length ≤ 1000) (nd : ss.Nodup) (hi : i < δ.length)
    (hv : ∀ s ∈ ss, v ((δ.wipe [i]).put i (.sh (.str s))) = some (.int (f' s))) : xL oDictP (xsC (xLc (sDct a dKeys) [i] (gN i) tTrue (xL oTup (xsC (xVar i) (xsC v (xs0))))) (xs0)) δ = some (eG ss f') := by
  have e : sDct a dKeys δ = some (ss.map .str) := by
    unfold sDct
    rw [h]
    simp [eG, dKeys, List.map_map, Function.comp_def]
  simp only [xL, xsC, xs0, xLc]
  rw [e]
  simp only [Option.bind_some]
  rw [cL_all D.str (fun s => D.tup [.str s, .int (f' s)]) ss]
  · simp only [Option.map_some, Option.bind_some]
    exact dictG f' hl nd
  · intro s hs
    refine ⟨_, rfl, ?_⟩
    have a2 : ((δ.wipe [i]).put i (.sh (.str s))).sh i = some (.str s) := by simp [En.sh, En.put, En.wipe, hi]
    have a3 : xL oTup (xsC (xVar i) (xsC v (xs0))) ((δ.wipe [i]).put i (.sh (.str s))) = some (.tup [.str s, .int (f' s)]) := by
      simp only [xL, xsC, xs0, xVar, a2, hv s hs, Option.bind_some, tup2]
    exact a3
theorem put_G {ss : List Str} {f : Str → Nat} {s : Str} {v : Nat} (h : s ∈ ss) : dPut (.str s) (.int v) (gK ss f) = gK ss fun x => if x = s then v else f x := by
  unfold dPut gK
  rw [if_pos]
  · rw [List.map_map]
    refine List.map_congr_left fun x hx => ?_
    show (if D.str x = D.str s then (D.str x, D.int v) else (D.str x, D.int (f x))) = (D.str x, D.int ((if x = s then v else f x : Nat)))
    by_cases h : x = s
    · subst h; rw [if_pos rfl, if_pos rfl]
    · rw [if_neg (fun e => h (by injection e)), if_neg h]
  · simp only [List.any_map, List.any_eq_true, Function.comp, decide_eq_true_eq]
    exact ⟨s, h, rfl⟩
theorem list_lst (l : List D) : ∀ δ a, a δ = some (.lst l) → fList a δ = some l := fun δ a h => by unfold fList; rw [h]; rfl
theorem rev_lst (l : List D) : oRev (.lst l) = some (.lst l.reverse) := rfl
theorem ex_law_other (p : Pl) (dr : List Int) (ls ss : List Str) (hd : 4 ≤ dr.length) (hn : ∀ s ∈ ss, nameOk s) (h1 : ss ≠ []) (h6 : ss.length ≤ 6) (nd : ss.Nodup) (so : sortT ss = ss) (ok : p.Ok ss ls) (hl : ls ≠ []) (h7 : p.line.length ≤ 7) :
    ∃ p' : Pl, F__law_other [.tup (p.parts ss), eI dr, eL ls] = some (.tup (p'.parts ss)) ∧ p'.Ok ss ls := by
  have n1 := ok.n1
  have l1 : 0 < ls.length := List.length_pos_iff.mpr hl
  have s1 : 0 < ss.length := List.length_pos_iff.mpr h1
  obtain ⟨v0, _, d0⟩ := sub_I dr 0 (by decide) (by omega)
  obtain ⟨v1, _, d1⟩ := sub_I dr 1 (by decide) (by omega)
  obtain ⟨v2, _, d2⟩ := sub_I dr 2 (by decide) (by omega)
  obtain ⟨v3, _, d3⟩ := sub_I dr 3 (by decide) (by omega)
  obtain ⟨kd, hkd, ekd⟩ := mod_n v0 (n := 5) (by decide)
  obtain ⟨at_, hat, eat⟩ := mod_n v1 (n := p.line.length) (by omega)
  obtain ⟨nv, hnv, env⟩ := mod_n v3 (n := p.line.length) (by omega)
  have m2 := md v2 ss.length (by omega)
  obtain ⟨sg, hsg, esg⟩ := sub_L ss (v2 % ss.length) m2.1 m2.2
  have m3 := md v3 ls.length (by omega)
  obtain ⟨lt, hlt, elt⟩ := sub_L ls (v3 % ls.length) m3.1 m3.2
  have g0 := ok.g _ (st_mem hat)
  let St : Sl → Sl → Option Sl → Option Sl → Option Sl → Option Sl → Option Sl → Option Sl → En := fun b c x5 x6 x7 x8 x9 x10 => [some (.sh (.tup (p.parts ss))), some (.sh (eI dr)), some (.sh (eL ls)), some b, some c, x5, x6, x7, x8, x9, x10, none, none]
  let Sf : Sl → Sl → En := fun b c => St b c (some (.sh (.int p.line.length))) (some (.sh (.int kd))) (some (.sh (.int at_))) (some (.sh (.str sg))) (some (.sh (.str (p.st at_).1))) (some (.sh (eG ss (p.st at_).2)))
  have e1 : startE 13 [.tup (p.parts ss), eI dr, eL ls] = [some (.sh (.tup (p.parts ss))), some (.sh (eI dr)), some (.sh (eL ls)), none, none, none, none, none, none, none, none, none, none] := rfl
  -- what follows the branches
  let isB : Sl → (Str → Nat) → Prop := fun b f => b = .od (gK ss f) ∨ b = .sh (eG ss f)
  let isS : Sl → List (Str × (Str → Nat)) → Prop := fun c l => c = .ol (l.map (eSt ss)) ∨ c = .sh (.lst (l.map (eSt ss)))
  have fin : ∀ (p' : Pl) (b c : Sl), isB b p'.opens → isS c p'.line → (sThen (sDis 4) (sThen (sDis 3) (sThen (sRet (xL oTup (xsC (xVar 3) (xsC (xVar 4) (xs0))))) (sNext)))) (k4 (.tup (p'.parts ss))) (Sf b c) := by
    intro p' b c hb hc
    refine ⟨.lst (p'.line.map (eSt ss)), ?_, eG ss p'.opens, ?_, .tup (p'.parts ss), ?_, rfl⟩
    · rcases hc with rfl | rfl <;> rfl
    · rcases hb with rfl | rfl <;> rfl
    · simp only [xL, xsC, xs0, xVar, En.sh, En.put, Sf, St, List.set_cons_succ, List.set_cons_zero, List.getElem?_cons_succ, List.getElem?_cons_zero, Option.bind_some, tup2]
      rfl
  suffices h : ∃ p' : Pl, p'.Ok ss ls ∧ T__law_other (k4 (.tup (p'.parts ss))) (startE 13 [.tup (p.parts ss), eI dr, eL ls]) by
    obtain ⟨p', h1, h2⟩ := h
    exact ⟨p', FU_is dt__law_other rfl h2, h1⟩
  have head : ∀ (C : K4) (R : Tt), R C (Sf (.od (gK ss p.opens)) (.ol (p.line.map (eSt ss)))) → (sThen (sPar2 3 4 (nsC (nDictD (x2 oSub2 (bVar 0) (xC (.int 0)))) (nsC (nL (fList (x2 oSub2 (bVar 0) (xC (.int 1))))) ns0))) (sThen (sPar2 5 6 (nsC (nSh (xL oLen (xsC (bVar 4) (xs0)))) (nsC (nSh (x2 oMod (x2 oSub2 (bVar 1) (xC (.int 0))) (xC (.int 5)))) ns0))) (sThen (sPar2 7 8 (nsC (nSh (x2 oMod (x2 oSub2 (bVar 1) (xC (.int 1))) (bVar 5))) (nsC (nSh (x2 oSub2 (x1 oSortD (bVar 3)) (x2 oMod (x2 oSub2 (bVar 1) (xC (.int 2))) (xL oLen (xsC (bVar 3) (xs0)))))) ns0))) (sThen (sAsg (x2 oSub2 (bVar 4) (xVar 7)) (gT (gsC (gN 9) (gsC (gN 10) (gs0))))) R)))) C (startE 13 [.tup (p.parts ss), eI dr, eL ls]) := by
    intro C R hR
    rw [e1]
    have ln : oLen [D.lst (p.line.map (eSt ss))] = some (.int p.line.length) := by simp [oLen]
    have lg : oLen [D.dct (gK ss p.opens)] = some (.int ss.length) := by simp [oLen, gK]
    refine ⟨.od (gK ss p.opens), .ol (p.line.map (eSt ss)), ?_, .sh (.int p.line.length), .sh (.int kd), ?_, .sh (.int at_), .sh (.str sg), ?_, eSt ss (p.st at_), ?_, Sf (.od (gK ss p.opens)) (.ol (p.line.map (eSt ss))), rfl, hR⟩
    · simp only [nsC, nDictD, nL, fList, ns0, x2, xC, bVar, En.any, List.getElem?_cons_succ, List.getElem?_cons_zero, Option.bind_some, sub_parts0, sub_parts1]
      rfl
    · simp only [nsC, nSh, ns0, xL, xsC, xs0, x2, xC, bVar, En.any, En.put, List.set_cons_succ, List.set_cons_zero, List.getElem?_cons_succ, List.getElem?_cons_zero, Option.bind_some, ln, d0, mod_i v0 5 (by decide)]
      rw [show v0 % 5 = (kd : Int) from ekd]
      rfl
    · have sd : oSortD (.dct (gK ss p.opens)) = some (eL ss) := sortD_G p.opens so h6
      simp only [nsC, nSh, ns0, xL, xsC, xs0, x1, x2, xC, bVar, En.any, En.put, List.set_cons_succ, List.set_cons_zero, List.getElem?_cons_succ, List.getElem?_cons_zero, Option.bind_some, d1, mod_i v1 p.line.length (by omega), eat, d2, lg, sd, mod_i v2 ss.length (by omega), esg]
      rfl
    · have := ix_S ss hat
      simp only [x2, bVar, xVar, En.any, En.sh, En.put, List.set_cons_succ, List.set_cons_zero, List.getElem?_cons_succ, List.getElem?_cons_zero, Option.bind_some]
      exact this
  -- the tests of the kind
  have test : ∀ (n : Nat) (b c : Sl), tB (x2 oEq (bVar 6) (xC (.int n))) (Sf b c) = some (decide (kd = n)) := by
    intro n b c
    simp only [tB, x2, xC, bVar, En.any, Sf, St, List.getElem?_cons_succ, List.getElem?_cons_zero, Option.bind_some, eq_i]
    congr 1
    exact decide_eq_decide.mpr ⟨fun h => by omega, fun h => by omega⟩
  have kinds : kd = 0 ∨ kd = 1 ∨ kd = 2 ∨ kd = 3 ∨ kd = 4 := by omega
  have vat : xVar 7 (Sf (.od (gK ss p.opens)) (.ol (p.line.map (eSt ss)))) = some (.int at_) := rfl
  have nat : nix (p.line.map (eSt ss)).length (at_ : Int) = some at_ := by
    simp only [nix, List.length_map]
    rw [if_pos (by omega), if_pos (by omega)]
    simp
  have setS : ∀ st, (p.line.map (eSt ss)).set at_ (eSt ss st) = (p.line.set at_ st).map (eSt ss) := fun st => by rw [List.map_set]
  have okset : ∀ st, stOk ss ls p.line.length st → (⟨p.opens, p.line.set at_ st⟩ : Pl).Ok ss ls := fun st h => by
    refine ⟨by simp only [List.length_set]; omega, by simp only [List.length_set]; exact ok.n8, fun s hs => by simp only [List.length_set]; exact ok.o s hs, fun y hy => ?_⟩
    simp only [List.length_set]
    rcases List.mem_or_eq_of_mem_set hy with hy | rfl
    · exact ok.g y hy
    · exact h
  have f0 : ∀ n : Nat, kd ≠ n → decide (kd = n) = false := fun n h => decide_eq_false h
  rcases kinds with hk | hk | hk | hk | hk
  · -- another letter
    refine ⟨⟨p.opens, p.line.set at_ (lt, (p.st at_).2)⟩, okset _ ⟨hlt, g0.2⟩, head _ _ ⟨true, (test 0 _ _).trans (by rw [hk]; rfl), ?_⟩⟩
    rw [if_pos rfl]
    refine ⟨p.line.map (eSt ss), eSt ss (lt, (p.st at_).2), at_, at_, rfl, ?_, vat, nat, ?_⟩
    · simp only [xL, xsC, xs0, x2, xC, bVar, xVar, En.any, En.sh, Sf, St, List.getElem?_cons_succ, List.getElem?_cons_zero, Option.bind_some, d3, len_L, mod_i v3 ls.length (show (0 : Int) < ls.length by omega), elt, tup2]
      rfl
    · rw [setS]
      exact fin ⟨p.opens, p.line.set at_ (lt, (p.st at_).2)⟩ _ _ (.inl rfl) (.inl rfl)
  · -- another way
    refine ⟨⟨p.opens, p.line.set at_ ((p.st at_).1, fun s => if s = sg then nv else (p.st at_).2 s)⟩, okset _ ⟨g0.1, fun s hs => ?_⟩, head _ _ ⟨false, (test 0 _ _).trans (congrArg some (f0 _ (by omega))), true, (test 1 _ _).trans (by rw [hk]; rfl), ?_⟩⟩
    · dsimp only
      split
      · exact hnv
      · exact g0.2 s hs
    rw [if_pos rfl]
    refine ⟨p.line.map (eSt ss), eSt ss ((p.st at_).1, fun s => if s = sg then nv else (p.st at_).2 s), at_, at_, rfl, ?_, vat, nat, ?_⟩
    · have dk := dict_keys (a := xVar 10) (δ := Sf (.od (gK ss p.opens)) (.ol (p.line.map (eSt ss)))) (ss := ss) (f := (p.st at_).2) (f' := fun s => if s = sg then nv else (p.st at_).2 s) (i := 11) (v := xIf (tB (x2 oEq (bVar 11) (bVar 8))) (x2 oMod (x2 oSub2 (bVar 1) (xC (.int 3))) (bVar 5)) (x2 oSub2 (bVar 10) (xVar 11))) rfl (by omega) nd (by simp [Sf, St]) fun s hs => by
        simp only [xIf, tB, x2, xC, bVar, xVar, En.any, En.sh, En.put, En.wipe, Sf, St, List.set_cons_succ, List.set_cons_zero, List.getElem?_cons_succ, List.getElem?_cons_zero, Option.bind_some, eq_S (hn s hs) (hn sg hsg), d3, mod_i v3 p.line.length (show (0 : Int) < p.line.length by omega), env, sub_G _ hs]
        by_cases h : s = sg
        · rw [decide_eq_true h, if_pos rfl, if_pos h]
        · rw [decide_eq_false h, if_neg Bool.false_ne_true, if_neg h]
      generalize xL oDictP (xsC (xLc (sDct (xVar 10) dKeys) [11] (gN 11) (tTrue) (xL oTup (xsC (xVar 11) (xsC (xIf (tB (x2 oEq (bVar 11) (bVar 8))) (x2 oMod (x2 oSub2 (bVar 1) (xC (.int 3))) (bVar 5)) (x2 oSub2 (bVar 10) (xVar 11))) (xs0))))) (xs0)) = A at dk ⊢
      simp only [xL, xsC, xs0, dk]
      simp only [xVar, En.sh, Sf, St, List.getElem?_cons_succ, List.getElem?_cons_zero, Option.bind_some, tup2]
      rfl
    · rw [setS]
      exact fin ⟨p.opens, _⟩ _ _ (.inl rfl) (.inl rfl)
  · -- another begin
    refine ⟨⟨fun s => if s = sg then nv else p.opens s, p.line⟩, ⟨ok.n1, ok.n8, fun s hs => ?_, ok.g⟩, head _ _ ⟨false, (test 0 _ _).trans (congrArg some (f0 _ (by omega))), false, (test 1 _ _).trans (congrArg some (f0 _ (by omega))), true, (test 2 _ _).trans (by rw [hk]; rfl), ?_⟩⟩
    · dsimp only
      split
      · exact hnv
      · exact ok.o s hs
    rw [if_pos rfl]
    refine ⟨gK ss p.opens, .str sg, .int nv, rfl, ?_, rfl, rfl, ?_, ?_⟩
    · simp only [x2, xC, bVar, En.any, Sf, St, List.getElem?_cons_succ, List.getElem?_cons_zero, Option.bind_some, d3, mod_i v3 p.line.length (show (0 : Int) < p.line.length by omega), env]
    · have : (gK ss p.opens).length ≤ 6 := by simpa [gK] using h6
      exact Nat.lt_of_le_of_lt this (by decide)
    · rw [put_G hsg]
      exact fin ⟨fun s => if s = sg then nv else p.opens s, p.line⟩ _ _ (.inl rfl) (.inl rfl)
  · -- turned round
    have rl : ∀ st ∈ p.line, ∀ s ∈ ss, ((p.line.length : Int) - 1 - (st.2 s : Int)) = ((p.line.length - 1 - st.2 s : Nat) : Int) := fun st hst s hs => by
      have := (ok.g st hst).2 s hs
      omega
    have ol : ∀ s ∈ ss, ((p.line.length : Int) - 1 - (p.opens s : Int)) = ((p.line.length - 1 - p.opens s : Nat) : Int) := fun s hs => by
      have := ok.o s hs
      omega
    refine ⟨⟨fun s => p.line.length - 1 - p.opens s, p.line.reverse.map fun st => (st.1, fun s => p.line.length - 1 - st.2 s)⟩, ⟨by simp; omega, by simp; exact ok.n8, fun s hs => by simp; omega, fun y hy => ?_⟩, head _ _ ⟨false, (test 0 _ _).trans (congrArg some (f0 _ (by omega))), false, (test 1 _ _).trans (congrArg some (f0 _ (by omega))), false, (test 2 _ _).trans (congrArg some (f0 _ (by omega))), true, (test 3 _ _).trans (by rw [hk]; rfl), ?_⟩⟩
    · obtain ⟨st, hst, rfl⟩ := List.mem_map.mp hy
      have := ok.g st (by simpa using hst)
      exact ⟨this.1, fun s hs => by simp; omega⟩
    rw [if_pos rfl]
    refine ⟨eG ss p.opens, rfl, .sh (eG ss fun s => p.line.length - 1 - p.opens s), ?_, .sh (.lst ((p.line.reverse.map fun st => (st.1, fun s => p.line.length - 1 - st.2 s)).map (eSt ss))), ?_, ?_⟩
    · have dk := dict_keys (a := xVar 3) (δ := Sf (.sh (eG ss p.opens)) (.ol (p.line.map (eSt ss)))) (ss := ss) (f := p.opens) (f' := fun s => p.line.length - 1 - p.opens s) (i := 11) (v := x2 oSub (x2 oSub (bVar 5) (xC (.int 1))) (x2 oSub2 (bVar 3) (xVar 11))) rfl (by omega) nd (by simp [Sf, St]) fun s hs => by
        simp only [x2, xC, bVar, xVar, En.any, En.sh, En.put, En.wipe, Sf, St, List.set_cons_succ, List.set_cons_zero, List.getElem?_cons_succ, List.getElem?_cons_zero, Option.bind_some, sub_G _ hs, sub_i, ol s hs]
      exact congrArg (Option.map Sl.sh) dk
    · show nSh _ (Sf (.sh (eG ss fun s => p.line.length - 1 - p.opens s)) (.ol (p.line.map (eSt ss)))) = _
      have ev : xLc (sLst (x1 oRev (bVar 4))) [12] (gN 12) (tTrue) (xL oTup (xsC (x2 oSub2 (bVar 12) (xC (.int 0))) (xsC (xL oDictP (xsC (xLc (sDct (x2 oIxT (xVar 12) (xC (.int 1))) dKeys) [11] (gN 11) (tTrue) (xL oTup (xsC (xVar 11) (xsC (x2 oSub (x2 oSub (bVar 5) (xC (.int 1))) (x2 oSub2 (x2 oSub2 (bVar 12) (xC (.int 1))) (xVar 11))) (xs0))))) (xs0))) (xs0)))) (Sf (.sh (eG ss fun s => p.line.length - 1 - p.opens s)) (.ol (p.line.map (eSt ss)))) = some (.lst ((p.line.reverse.map fun st => (st.1, fun s => p.line.length - 1 - st.2 s)).map (eSt ss))) := by
        have er : sLst (x1 oRev (bVar 4)) (Sf (.sh (eG ss fun s => p.line.length - 1 - p.opens s)) (.ol (p.line.map (eSt ss)))) = some (p.line.reverse.map (eSt ss)) := by
          simp only [sLst, x1, bVar, En.any, Sf, St, List.getElem?_cons_succ, List.getElem?_cons_zero, Option.bind_some, rev_lst, List.map_reverse]
        show ((sLst (x1 oRev (bVar 4)) (Sf (.sh (eG ss fun s => p.line.length - 1 - p.opens s)) (.ol (p.line.map (eSt ss))))).bind fun ds => (cL _ _ _ _ ds).map D.lst) = _
        rw [er, Option.bind_some, List.map_map, cL_all (eSt ss) (fun st => eSt ss (st.1, fun s => p.line.length - 1 - st.2 s))]
        · rfl
        · intro st hst
          have hst : st ∈ p.line := by simpa using hst
          refine ⟨_, rfl, ?_⟩
          have dk := dict_keys (a := x2 oIxT (xVar 12) (xC (.int 1))) (δ := ((Sf (.sh (eG ss fun s => p.line.length - 1 - p.opens s)) (.ol (p.line.map (eSt ss)))).wipe [12]).put 12 (.sh (eSt ss st))) (ss := ss) (f := st.2) (f' := fun s => p.line.length - 1 - st.2 s) (i := 11) (v := x2 oSub (x2 oSub (bVar 5) (xC (.int 1))) (x2 oSub2 (x2 oSub2 (bVar 12) (xC (.int 1))) (xVar 11))) rfl (by omega) nd (by simp [Sf, St, En.put, En.wipe]) fun s hs => by
            simp only [x2, xC, bVar, xVar, En.any, En.sh, En.put, En.wipe, Sf, St, List.set_cons_succ, List.set_cons_zero, List.getElem?_cons_succ, List.getElem?_cons_zero, Option.bind_some, sub_st1, sub_G _ hs, sub_i, rl st hst s hs]
          generalize xL oDictP (xsC (xLc (sDct (x2 oIxT (xVar 12) (xC (.int 1))) dKeys) [11] (gN 11) (tTrue) (xL oTup (xsC (xVar 11) (xsC (x2 oSub (x2 oSub (bVar 5) (xC (.int 1))) (x2 oSub2 (x2 oSub2 (bVar 12) (xC (.int 1))) (xVar 11))) (xs0))))) (xs0)) = A at dk ⊢
          simp only [xL, xsC, xs0, dk]
          simp only [x2, xC, bVar, En.any, En.put, En.wipe, Sf, St, List.set_cons_succ, List.set_cons_zero, List.getElem?_cons_succ, List.getElem?_cons_zero, Option.bind_some, sub_st0, tup2]
          rfl
      exact congrArg (Option.map Sl.sh) ev
    · exact fin ⟨fun s => p.line.length - 1 - p.opens s, p.line.reverse.map fun st => (st.1, fun s => p.line.length - 1 - st.2 s)⟩ _ _ (.inr rfl) (.inr rfl)
  · -- one step twice
    let sel : Str → Nat := fun s => if p.opens s = at_ ∧ v3 % 2 = 0 then p.line.length else p.opens s
    refine ⟨⟨sel, p.line ++ [p.st at_]⟩, ⟨by simp, by simp; omega, fun s hs => ?_, fun y hy => ?_⟩, head _ _ ⟨false, (test 0 _ _).trans (congrArg some (f0 _ (by omega))), false, (test 1 _ _).trans (congrArg some (f0 _ (by omega))), false, (test 2 _ _).trans (congrArg some (f0 _ (by omega))), false, (test 3 _ _).trans (congrArg some (f0 _ (by omega))), ?_⟩⟩
    · have := ok.o s hs
      simp only [List.length_append, List.length_singleton, sel]
      split <;> omega
    · have hy : y ∈ p.line := by
        rcases List.mem_append.mp hy with hy | hy
        · exact hy
        · simp only [List.mem_singleton] at hy
          rw [hy]; exact st_mem hat
      have := ok.g y hy
      exact ⟨this.1, fun s hs => by have := this.2 s hs; simp only [List.length_append, List.length_singleton]; omega⟩
    rw [if_neg Bool.false_ne_true]
    refine ⟨p.line.map (eSt ss), eSt ss (p.st at_), rfl, ?_, ?_, eG ss p.opens, rfl, .sh (eG ss sel), ?_, ?_⟩
    · have := ix_S ss hat
      simp only [x2, bVar, xVar, En.any, En.sh, Sf, St, List.getElem?_cons_succ, List.getElem?_cons_zero, Option.bind_some]
      exact this
    · rw [List.length_map]; exact Nat.lt_of_le_of_lt h7 (by decide)
    · show nSh _ (Sf (.sh (eG ss p.opens)) (.ol (p.line.map (eSt ss) ++ [eSt ss (p.st at_)]))) = _
      have dk := dict_keys (a := xVar 3) (δ := Sf (.sh (eG ss p.opens)) (.ol (p.line.map (eSt ss) ++ [eSt ss (p.st at_)]))) (ss := ss) (f := p.opens) (f' := sel) (i := 11) (v := xIf (BP.tAnd (tB (x2 oEq (x2 oSub2 (bVar 3) (xVar 11)) (bVar 7))) (tB (x2 oEq (x2 oMod (x2 oSub2 (bVar 1) (xC (.int 3))) (xC (.int 2))) (xC (.int 0))))) (xVar 5) (x2 oSub2 (bVar 3) (xVar 11))) rfl (by omega) nd (by simp [Sf, St]) fun s hs => by
        simp only [xIf, BP.tAnd, tB, x2, xC, bVar, xVar, En.any, En.sh, En.put, En.wipe, Sf, St, List.set_cons_succ, List.set_cons_zero, List.getElem?_cons_succ, List.getElem?_cons_zero, Option.bind_some, sub_G _ hs, eq_i, d3, mod_i v3 2 (by decide), sel]
        by_cases h : p.opens s = at_
        · rw [decide_eq_true (show (p.opens s : Int) = at_ by omega), if_pos rfl]
          by_cases h' : v3 % 2 = 0
          · rw [decide_eq_true h', Option.bind_some, if_pos rfl, if_pos ⟨h, h'⟩]
          · rw [decide_eq_false h', Option.bind_some, if_neg Bool.false_ne_true, if_neg (fun q => h' q.2)]
        · rw [decide_eq_false (show ¬ (p.opens s : Int) = at_ by omega), if_neg Bool.false_ne_true, Option.bind_some, if_neg Bool.false_ne_true, if_neg (fun q => h q.1)]
      exact congrArg (Option.map Sl.sh) dk
    · exact fin ⟨sel, p.line ++ [p.st at_]⟩ _ _ (.inr rfl) (.inl (by rw [List.map_append]; rfl))
end BP
namespace BP
open PySem
theorem cut_from (ds : List D) (i : Int) (h : 0 ≤ i) : cut ds (some i) none = ds.drop i.toNat := by
  unfold cut
  rw [clip_some _ _ _ h]
  simp only [clip]
  rw [List.take_of_length_le (by rw [List.length_drop]; exact Nat.le_refl _)]
  by_cases h : i.toNat ≤ ds.length
  · rw [Nat.min_eq_left h]
  · rw [Nat.min_eq_right (by omega), List.drop_length, List.drop_eq_nil_of_le (by omega)]
theorem cut_I {a b : Ex} {δ : En} {l : List Int} {i : Int} (h : a δ = some (eI l)) (hb : b δ = some (.int i)) (h0 : 0 ≤ i) : xCut a (po1 b) po0 δ = some (eI (l.drop i.toNat)) := by
  simp only [xCut, po1, po0, h, hb, Option.bind_some, eI]
  rw [cut_from _ _ h0, List.map_drop]
theorem max_i5 (a b : Int) : oMax2 [.int a, .int b] = some (.int (if b > a then b else a)) := rfl
theorem min_i5 (a b : Int) : oMin2 [.int a, .int b] = some (.int (if b < a then b else a)) := rfl
theorem row_plain {w : Wb} (wk : w.Ok) {p q : Pl} (hp : p.Ok w.signs w.letters) (hq : q.Ok w.signs w.letters) {o : Option (List Str)} (h : ApartIs w p q o) : plainD 8 (eRow o) = true := by
  cases o with
  | none => rfl
  | some r =>
    obtain ⟨⟨c, h1, _⟩, _⟩ := h
    exact plain_L fun x hx => wk.sn x ((rch_nd hp hq h1).1 x hx)
theorem ne_same {d : D} (h : plainD 8 d = true) : oNe d d = some (.bl false) := by
  unfold oNe
  rw [if_pos ⟨h, h⟩]
  simp
def lawT5 : Tt := (sThen (sPar2 2 3 (nsC (nSh (xL F__law_web (xsC (xVar 0) (xsC (xVar 1) (xsC (xC (.int 5)) (xs0)))))) (nsC (nSh (xL F__law_digits (xsC (xVar 0) (xsC (x2 oPlus (xVar 1) (xC (.int 1))) (xsC (xC (.int 40)) (xsC (xC (.int 1000003)) (xs0))))))) ns0))) (sThen (sSet 4 (nSh (xSort (vSet (x1 oListV (x2 oSub2 (bVar 2) (xC (.int 1)))))))) (sThen (sSet 5 (nSh (xL F__law_plan (xsC (xVar 3) (xsC (x2 oSub2 (bVar 2) (xC (.int 0))) (xsC (xVar 4) (xsC (x2 oPlus (xC (.int 1)) (x2 oMod (x2 oSub2 (bVar 3) (xC (.int 0))) (xC (.int 5)))) (xs0)))))))) (sThen (sSet 6 (nSh (xL F__law_other (xsC (xVar 5) (xsC (xCut (bVar 3) (po1 (xC (.int 20))) (po0)) (xsC (x2 oSub2 (bVar 2) (xC (.int 0))) (xs0))))))) (sThen (sIf (tB (x2 oEq (x2 oMod (x2 oSub2 (bVar 3) (xC (.int 1))) (xC (.int 3))) (xC (.int 0)))) (sThen (sSet 6 (nSh (xL F__law_plan (xsC (xCut (bVar 3) (po1 (xC (.int 7))) (po0)) (xsC (x2 oSub2 (bVar 2) (xC (.int 0))) (xsC (xVar 4) (xsC (x2 oPlus (xC (.int 1)) (x2 oMod (x2 oSub2 (bVar 3) (xC (.int 2))) (xC (.int 4)))) (xs0)))))))) (sNext)) (sNext)) (sThen (sSet 7 (nSh (oMake 0 I_Web (xsC (x2 oSub2 (bVar 2) (xC (.int 0))) (xsC (x2 oSub2 (bVar 2) (xC (.int 1))) (xsC (x2 oSub2 (bVar 2) (xC (.int 2))) (xsC (x2 oSub2 (bVar 2) (xC (.int 3))) (xs0)))))))) (sThen (sSet 8 (nSh (xL oLst (xsC (oMake 1 I_Plan (xsC (x2 oSub2 (bVar 5) (xC (.int 0))) (xsC (x2 oSub2 (bVar 5) (xC (.int 1))) (xs0)))) (xsC (oMake 1 I_Plan (xsC (x2 oSub2 (bVar 6) (xC (.int 0))) (xsC (x2 oSub2 (bVar 6) (xC (.int 1))) (xs0)))) (xs0)))))) (sThen (sSet 9 (nSh (xL F__law_due5 (xsC (xVar 2) (xsC (xVar 5) (xsC (xVar 6) (xs0))))))) (sThen (sIf (BP.tOr (tB (x2 oNe (xL F_apart (xsC (xVar 7) (xsC (x2 oSub2 (bVar 8) (xC (.int 0))) (xsC (x2 oSub2 (bVar 8) (xC (.int 1))) (xs0))))) (bVar 9))) (tB (x2 oNe (xL F_apart (xsC (xVar 7) (xsC (x2 oSub2 (bVar 8) (xC (.int 1))) (xsC (x2 oSub2 (bVar 8) (xC (.int 0))) (xs0))))) (bVar 9)))) (sThen (sRet (xC (.bl false))) (sNext)) (sNext)) (sThen (sIf (tB (x1 oNotN (xL F_apart (xsC (xVar 7) (xsC (x2 oSub2 (bVar 8) (xC (.int 0))) (xsC (x2 oSub2 (bVar 8) (xC (.int 0))) (xs0))))))) (sThen (sRet (xC (.bl false))) (sNext)) (sNext)) (sNext)))))))))))
theorem parts0 (w : Wb) : oSub2 (.tup w.parts) (.int 0) = some (eL w.letters) := rfl
theorem parts1 (w : Wb) : oSub2 (.tup w.parts) (.int 1) = some (eK w.spots) := rfl
theorem parts2 (w : Wb) : oSub2 (.tup w.parts) (.int 2) = some (eL w.begins) := rfl
theorem parts3 (w : Wb) : oSub2 (.tup w.parts) (.int 3) = some (eW w.places w.letters fun p l => eL (w.way p l)) := rfl
/-- what follows when both plans stand -/
theorem law5_tail {w : Wb} (wk : w.Ok) {p q : Pl} (hp : p.Ok w.signs w.letters) (hq : q.Ok w.signs w.letters) (sc : List Int) (t : Int) (x3 x7 x8 x9 : Option Sl) (C : K4) (hC : ∀ x7 x8 x9, C.nx [some (.sh (eI sc)), some (.sh (.int t)), some (.sh (.tup w.parts)), x3, some (.sh (eL w.signs)), some (.sh (.tup (p.parts w.signs))), some (.sh (.tup (q.parts w.signs))), x7, x8, x9]) :
    (sThen (sSet 7 (nSh (oMake 0 I_Web (xsC (x2 oSub2 (bVar 2) (xC (.int 0))) (xsC (x2 oSub2 (bVar 2) (xC (.int 1))) (xsC (x2 oSub2 (bVar 2) (xC (.int 2))) (xsC (x2 oSub2 (bVar 2) (xC (.int 3))) (xs0)))))))) (sThen (sSet 8 (nSh (xL oLst (xsC (oMake 1 I_Plan (xsC (x2 oSub2 (bVar 5) (xC (.int 0))) (xsC (x2 oSub2 (bVar 5) (xC (.int 1))) (xs0)))) (xsC (oMake 1 I_Plan (xsC (x2 oSub2 (bVar 6) (xC (.int 0))) (xsC (x2 oSub2 (bVar 6) (xC (.int 1))) (xs0)))) (xs0)))))) (sThen (sSet 9 (nSh (xL F__law_due5 (xsC (xVar 2) (xsC (xVar 5) (xsC (xVar 6) (xs0))))))) (sThen (sIf (BP.tOr (tB (x2 oNe (xL F_apart (xsC (xVar 7) (xsC (x2 oSub2 (bVar 8) (xC (.int 0))) (xsC (x2 oSub2 (bVar 8) (xC (.int 1))) (xs0))))) (bVar 9))) (tB (x2 oNe (xL F_apart (xsC (xVar 7) (xsC (x2 oSub2 (bVar 8) (xC (.int 1))) (xsC (x2 oSub2 (bVar 8) (xC (.int 0))) (xs0))))) (bVar 9)))) (sThen (sRet (xC (.bl false))) (sNext)) (sNext)) (sThen (sIf (tB (x1 oNotN (xL F_apart (xsC (xVar 7) (xsC (x2 oSub2 (bVar 8) (xC (.int 0))) (xsC (x2 oSub2 (bVar 8) (xC (.int 0))) (xs0))))))) (sThen (sRet (xC (.bl false))) (sNext)) (sNext)) (sNext))))))
      C [some (.sh (eI sc)), some (.sh (.int t)), some (.sh (.tup w.parts)), x3, some (.sh (eL w.signs)), some (.sh (.tup (p.parts w.signs))), some (.sh (.tup (q.parts w.signs))), x7, x8, x9] := by
  have e3 : I_Web [eL w.letters, eK w.spots, eL w.begins, eW w.places w.letters fun p l => eL (w.way p l)] = some w.fields := ex_init w wk
  have ip : ∀ {p : Pl}, p.Ok w.signs w.letters → I_Plan [eG w.signs p.opens, p.eS w.signs] = some (p.fields w.signs) := fun {p} hp => ex_initP p w.signs w.letters hp wk.s1 wk.sn wk.ln w.signs_sorted w.signs_nodup wk.s6
  obtain ⟨o, a1, d1⟩ := ex_law_due5 wk hp hq
  obtain ⟨o2, a2, d2⟩ := ex_apart wk hp hq
  have := apart_one a2 a1
  subst this
  obtain ⟨o3, a3, d3⟩ := ex_apart wk hq hp
  have := apart_one (apart_swap a3) a1
  subst this
  obtain ⟨o4, a4, d4⟩ := ex_apart wk hp hp
  have := apart_one a4 apart_self
  subst this
  have pl := row_plain wk hp hq a1
  have nn : oNotN (eRow none) = some (.bl false) := by simp [oNotN, eRow]
  have i0 : oSub2 (.lst [p.obj w.signs, q.obj w.signs]) (.int 0) = some (p.obj w.signs) := rfl
  have i1 : oSub2 (.lst [p.obj w.signs, q.obj w.signs]) (.int 1) = some (q.obj w.signs) := rfl
  have l2 : ∀ a b : D, oLst [a, b] = some (.lst [a, b]) := fun a b => by unfold oLst; rw [if_pos (most_ge (by simp))]
  refine ⟨.sh w.obj, ?_, .sh (.lst [p.obj w.signs, q.obj w.signs]), ?_, .sh (eRow o3), ?_, false, ?_, ?_⟩
  · simp only [nSh, oMake, x2, xsC, xs0, xC, bVar, En.any, List.getElem?_cons_succ, List.getElem?_cons_zero, Option.bind_some, parts0, parts1, parts2, parts3, e3]
    rfl
  · simp only [nSh, oMake, xL, x2, xsC, xs0, xC, bVar, En.any, En.put, List.set_cons_succ, List.set_cons_zero, List.getElem?_cons_succ, List.getElem?_cons_zero, Option.bind_some, sub_parts0, sub_parts1, ip hp, ip hq, Option.map_some, l2]
    rfl
  · simp only [nSh, xL, xsC, xs0, xVar, En.sh, En.put, List.set_cons_succ, List.set_cons_zero, List.getElem?_cons_succ, List.getElem?_cons_zero, Option.bind_some, d1]
    rfl
  · simp only [BP.tOr, tB, x2, xL, xsC, xs0, xC, xVar, bVar, En.sh, En.any, En.put, List.set_cons_succ, List.set_cons_zero, List.getElem?_cons_succ, List.getElem?_cons_zero, Option.bind_some, i0, i1, d2, d3, ne_same pl]
    rfl
  rw [if_neg Bool.false_ne_true]
  refine ⟨false, ?_, ?_⟩
  · simp only [tB, x1, x2, xL, xsC, xs0, xC, xVar, bVar, En.sh, En.any, En.put, List.set_cons_succ, List.set_cons_zero, List.getElem?_cons_succ, List.getElem?_cons_zero, Option.bind_some, i0, d4, nn]
  rw [if_neg Bool.false_ne_true]
  exact hC _ _ _
theorem ex_law (sc : List Int) (hl : sc.length ≤ 63) : T_law5 (k4 (.bl true)) [some (.sh (eI sc)), none, none, none, none, none, none, none, none, none] := by
  let St : Option Sl → Option Sl → Option Sl → Option Sl → Option Sl → Option Sl → Option Sl → Option Sl → Option Sl → En := fun x1 x2 x3 x4 x5 x6 x7 x8 x9 => [some (.sh (eI sc)), x1, x2, x3, x4, x5, x6, x7, x8, x9]
  obtain ⟨n, hn, en⟩ : ∃ n : Nat, n ≤ 10 ∧ (xL oMax2 (xsC (xC (.int 1)) (xsC (xL oMin2 (xsC (xC (.int 10)) (xsC (xL oLen (xsC (bVar 0) (xs0))) (xs0)))) (xs0)))) (St none none none none none none none none none) = some (.int n) := by
    simp only [xL, xsC, xs0, xC, bVar, En.any, St, List.getElem?_cons_zero, Option.bind_some, len_I, max_i5, min_i5]
    refine ⟨(if (if (sc.length : Int) < 10 then (sc.length : Int) else 10) > 1 then (if (sc.length : Int) < 10 then (sc.length : Int) else 10) else 1).toNat, ?_, ?_⟩
    · split <;> split <;> omega
    · congr 2
      split <;> split <;> omega
  refine ⟨upTo 0 n, ?_, ?_⟩
  · show sRange1 _ (St none none none none none none none none none) = _
    simp only [sRange1, xsC, xs0, en, Option.bind_some]
    rw [if_pos ⟨by omega, by omega⟩]
    simp
  show sForL _ _ _ (upTo 0 n) (St none none none none none none none none none)
  have fin : ∀ x1 x2 x3 x4 x5 x6 x7 x8 x9, (sThen (sRet (xC (.bl true))) (sNext)) (k4 (.bl true)) (St x1 x2 x3 x4 x5 x6 x7 x8 x9) := fun _ _ _ _ _ _ _ _ _ => ⟨.bl true, rfl, rfl⟩
  have loop : ∀ (m : Nat) (t : Int) (x1 x2 x3 x4 x5 x6 x7 x8 x9 : Option Sl), 0 ≤ t → sForL (gN 1) lawT5 { k4 (.bl true) with nx := (sThen (sRet (xC (.bl true))) (sNext)) (k4 (.bl true)) } (upTo t m) (St x1 x2 x3 x4 x5 x6 x7 x8 x9) := by
    intro m
    induction m with
    | zero => intro t x1 x2 x3 x4 x5 x6 x7 x8 x9 _; exact fin x1 x2 x3 x4 x5 x6 x7 x8 x9
    | succ m ih =>
      intro t x1 x2 x3 x4 x5 x6 x7 x8 x9 h0
      obtain ⟨w, e1, wk⟩ := ex_law_web sc t 5 h0 (by decide)
      obtain ⟨dr, e2, dl⟩ := ex_law_digits sc (t + 1) 40 1000003 (by omega) (by decide) (by decide)
      have e2 : F__law_digits [eI sc, .int (t + 1), .int 40, .int 1000003] = some (eI dr) := e2
      have ls1 : w.letters ≠ [] := List.length_pos_iff.mp wk.l1
      obtain ⟨v0, _, d0⟩ := sub_I dr 0 (by decide) (by omega)
      obtain ⟨v1, _, d1⟩ := sub_I dr 1 (by decide) (by omega)
      obtain ⟨v2, _, d2⟩ := sub_I dr 2 (by decide) (by omega)
      obtain ⟨m0, hm0, em0⟩ := mod_n v0 (n := 5) (by decide)
      obtain ⟨m2, hm2, em2⟩ := mod_n v2 (n := 4) (by decide)
      have em0 : v0 % 5 = (m0 : Int) := em0
      have em2 : v2 % 4 = (m2 : Int) := em2
      obtain ⟨p, ep, hp, hpl⟩ := ex_law_plan dr w.letters w.signs (1 + m0) (by omega) ls1 wk.s6 w.signs_nodup (by omega)
      have ep : F__law_plan [eI dr, eL w.letters, eL w.signs, .int (1 + (m0 : Int))] = some (.tup (p.parts w.signs)) := by
        have : ((1 + m0 : Nat) : Int) = 1 + (m0 : Int) := by omega
        rw [← this]; exact ep
      obtain ⟨q1, eq1, hq1⟩ := ex_law_other p (dr.drop 20) w.letters w.signs (by rw [List.length_drop]; omega) wk.sn wk.s1 wk.s6 w.signs_nodup w.signs_sorted hp ls1 (by omega)
      obtain ⟨q2, eq2, hq2, _⟩ := ex_law_plan (dr.drop 7) w.letters w.signs (1 + m2) (by rw [List.length_drop]; omega) ls1 wk.s6 w.signs_nodup (by omega)
      have eq2 : F__law_plan [eI (dr.drop 7), eL w.letters, eL w.signs, .int (1 + (m2 : Int))] = some (.tup (q2.parts w.signs)) := by
        have : ((1 + m2 : Nat) : Int) = 1 + (m2 : Int) := by omega
        rw [← this]; exact eq2
      refine ⟨St (some (.sh (.int t))) x2 x3 x4 x5 x6 x7 x8 x9, rfl, .sh (.tup w.parts), .sh (eI dr), ?_, .sh (eL w.signs), ?_, .sh (.tup (p.parts w.signs)), ?_, .sh (.tup (q1.parts w.signs)), ?_, decide (v1 % 3 = 0), ?_, ?_⟩
      · simp only [nsC, nSh, ns0, xL, BP.x2, xsC, xs0, xC, xVar, En.sh, St, List.getElem?_cons_succ, List.getElem?_cons_zero, Option.bind_some, e1, plus_i, e2]
        rfl
      · have := signs_law w wk (a := BP.x2 oSub2 (bVar 2) (xC (.int 1))) (δ := St (some (.sh (.int t))) (some (.sh (.tup w.parts))) (some (.sh (eI dr))) x4 x5 x6 x7 x8 x9) rfl
        exact congrArg (Option.map Sl.sh) this
      · simp only [nSh, xL, BP.x2, xsC, xs0, xC, xVar, bVar, En.sh, En.any, En.put, St, List.set_cons_succ, List.set_cons_zero, List.getElem?_cons_succ, List.getElem?_cons_zero, Option.bind_some, parts0, d0, mod_i v0 5 (by decide), em0, plus_i, ep]
        rfl
      · have cI := cut_I (a := bVar 3) (b := xC (.int 20)) (δ := St (some (.sh (.int t))) (some (.sh (.tup w.parts))) (some (.sh (eI dr))) (some (.sh (eL w.signs))) (some (.sh (.tup (p.parts w.signs)))) x6 x7 x8 x9) (l := dr) (i := 20) rfl rfl (by decide)
        show nSh _ (St (some (.sh (.int t))) (some (.sh (.tup w.parts))) (some (.sh (eI dr))) (some (.sh (eL w.signs))) (some (.sh (.tup (p.parts w.signs)))) x6 x7 x8 x9) = _
        have eq1 : F__law_other [.tup (p.parts w.signs), eI (dr.drop (20 : Int).toNat), eL w.letters] = some (.tup (q1.parts w.signs)) := eq1
        simp only [nSh, xL, xsC, xs0, cI]
        simp only [BP.x2, xC, xVar, bVar, En.sh, En.any, St, List.getElem?_cons_succ, List.getElem?_cons_zero, Option.bind_some, parts0, eq1]
        rfl
      · simp only [tB, BP.x2, xC, bVar, En.any, En.put, St, List.set_cons_succ, List.set_cons_zero, List.getElem?_cons_succ, List.getElem?_cons_zero, Option.bind_some, d1, mod_i v1 3 (by decide), eq_i]
      have next : ∀ y7 y8 y9 q, sForL (gN 1) lawT5 { k4 (.bl true) with nx := (sThen (sRet (xC (.bl true))) (sNext)) (k4 (.bl true)) } (upTo (t + 1) m) (St (some (.sh (.int t))) (some (.sh (.tup w.parts))) (some (.sh (eI dr))) (some (.sh (eL w.signs))) (some (.sh (.tup (p.parts w.signs)))) q y7 y8 y9) := fun y7 y8 y9 q => ih (t + 1) _ _ _ _ _ _ _ _ _ (by omega)
      by_cases hb : v1 % 3 = 0
      · rw [decide_eq_true hb, if_pos rfl]
        refine ⟨.sh (.tup (q2.parts w.signs)), ?_, ?_⟩
        · have cI := cut_I (a := bVar 3) (b := xC (.int 7)) (δ := St (some (.sh (.int t))) (some (.sh (.tup w.parts))) (some (.sh (eI dr))) (some (.sh (eL w.signs))) (some (.sh (.tup (p.parts w.signs)))) (some (.sh (.tup (q1.parts w.signs)))) x7 x8 x9) (l := dr) (i := 7) rfl rfl (by decide)
          show nSh _ (St (some (.sh (.int t))) (some (.sh (.tup w.parts))) (some (.sh (eI dr))) (some (.sh (eL w.signs))) (some (.sh (.tup (p.parts w.signs)))) (some (.sh (.tup (q1.parts w.signs)))) x7 x8 x9) = _
          have eq2 : F__law_plan [eI (dr.drop (7 : Int).toNat), eL w.letters, eL w.signs, .int (1 + (m2 : Int))] = some (.tup (q2.parts w.signs)) := eq2
          simp only [nSh, xL, xsC, xs0, cI]
          simp only [BP.x2, xC, xVar, bVar, En.sh, En.any, St, List.getElem?_cons_succ, List.getElem?_cons_zero, Option.bind_some, parts0, d2, mod_i v2 4 (by decide), em2, plus_i, eq2]
          rfl
        · exact law5_tail wk hp hq2 sc t _ x7 x8 x9 _ fun y7 y8 y9 => next y7 y8 y9 _
      · rw [decide_eq_false hb, if_neg Bool.false_ne_true]
        exact law5_tail wk hp hq1 sc t _ x7 x8 x9 _ fun y7 y8 y9 => next y7 y8 y9 _
  exact loop n 0 none none none none none none none none none (by decide)
end BP
namespace BP
open PySem L2
def top (i : Nat) : Stmt := PySem.Challenge.pw_beliefplan_k05_whole_apart.main.body.getD i (.Pass ⟨0, 0, 0, 0⟩)
def clsAt (s : Stmt) (j : Nat) : Stmt := match s with
  | .ClassDef (body := b) .. => b.getD j (.Pass ⟨0, 0, 0, 0⟩)
  | _ => s
structure Fx (w : World) (K : PySem.W.Frag) (mg : Str → Option Value) (κ : Kap) : Prop where
  g_SIGNS : ∃ t, mg "SIGNS" = some (.str "abcdefghijklmnopqrstuvwxyz" t)
  all : mg "all" = none
  isinstance : mg "isinstance" = none
  str : mg "str" = none
  len : mg "len" = none
  g_LONGEST : ∃ t, mg "LONGEST" = some (.int 8 t)
  list : mg "list" = none
  tuple : mg "tuple" = none
  g_MOST_LETTERS : ∃ t, mg "MOST_LETTERS" = some (.int 3 t)
  dict : mg "dict" = none
  g_MOST_PLACES : ∃ t, mg "MOST_PLACES" = some (.int 6 t)
  cls : Cls K (κ 0)
  na_known : NoAttr K (κ 0) "known"
  na_leads : NoAttr K (κ 0) "leads"
  na_first : NoAttr K (κ 0) "first"
  na_moves : NoAttr K (κ 0) "moves"
  wd : κ.wd = w
  sorted : mg "sorted" = none
  int : mg "int" = none
  bool : mg "bool" = none
  g_MOST_STEPS : ∃ t, mg "MOST_STEPS" = some (.int 1000 t)
  cls1 : Cls K (κ 1)
  na1_line : NoAttr K (κ 1) "line"
  na1_opens : NoAttr K (κ 1) "opens"
  isc1 : IsC K (κ 1)
  gc_Plan : mg "Plan" = some (.ref (κ 1))
  sum : mg "sum" = none
  abs : mg "abs" = none
  range : mg "range" = none
  enumerate : mg "enumerate" = none
  any : mg "any" = none
  set : mg "set" = none
  min : mg "min" = none
  max : mg "max" = none
section
variable {P : Program} {w : World} {K : PySem.W.Frag} {mg : Str → Option Value} {base : Heap} {κ : Kap} {f : Addr}
abbrev s_is_name : Stmt := top 13
theorem sc_is_name : FnScope ["thing", "sign"] ["thing"] (defScope s_is_name) := ⟨rfl, rfl, rfl, by decide +kernel, rfl, by decide +kernel, by decide +kernel⟩
theorem d_is_name (fx : Fx w K mg κ)  (cdv : Value) (A : Around) (outer : List Env) (s : Shared) (H : Hp) (E : XK) (hr : Room 0 (A.deeper (PyProof.Rows.envOfC "is_name" (defScope s_is_name) s.heap.objs.size f cdv))) : PSsx κ (cxn P w K mg base ["thing", "sign"] "is_name" (defScope s_is_name) f cdv A outer s H E) (defBody s_is_name) T_is_name := by
  have kn := kn_cxn (P := P) (w := w) (K := K) (mg := mg) (base := base) (outer := outer) (H := H) (E := E) sc_is_name hr
  exact SS_cons (S_if (T_w (W_or (T_not (T_val (X_isi (by decide) rfl fx.isinstance rfl fx.str PyProof.Rows.boot_str (B_var 0)))) (W_or1 (T_not (T_ch op_le op_le le_rd le_rd le_bl (PB.of (X_int)) (PB.of (X_len rfl fx.len (AB_cons (B_var 0) (AB_nil)))) (PB.of (X_globI fx.g_LONGEST))))))) (SS_cons (S_ret (X_bl)) (SS_nil)) (SS_nil)) (SS_cons (S_ret (X_all kn rfl fx.all (AB_cons (PB.of (X_lc kn (I_str (X_var 0)) (blkOk_by (own := [("sign", 1)]) (by kernel_rfl)) (fun s1 H1 C1 cl1 fp1 => G_name 1 kn.nd) (fun s1 H1 C1 cl1 fp1 => Ts_nil) (fun s1 H1 C1 cl1 fp1 => X_cmp op_in_sign inS_rd (B_var 1) (PB.of (X_globS fx.g_SIGNS))))) (AB_nil)))) (SS_nil))
abbrev s_are_some : Stmt := top 14
theorem sc_are_some : FnScope ["thing", "names", "least", "one"] ["thing", "names", "least"] (defScope s_are_some) := ⟨rfl, rfl, rfl, by decide +kernel, rfl, by decide +kernel, by decide +kernel⟩
theorem d_are_some (fx : Fx w K mg κ)  (cdv : Value) (A : Around) (outer : List Env) (s : Shared) (H : Hp) (E : XK) (hr : Room 0 (A.deeper (PyProof.Rows.envOfC "are_some" (defScope s_are_some) s.heap.objs.size f cdv))) : PSsx κ (cxn P w K mg base ["thing", "names", "least", "one"] "are_some" (defScope s_are_some) f cdv A outer s H E) (defBody s_are_some) T_are_some := by
  have kn := kn_cxn (P := P) (w := w) (K := K) (mg := mg) (base := base) (outer := outer) (H := H) (E := E) sc_are_some hr
  exact SS_cons (S_if (T_w (W_or (T_not (T_val (X_isi2 (by decide) (by decide) rfl fx.isinstance rfl fx.list PyProof.Rows.boot_list rfl fx.tuple PyProof.Rows.boot_tuple (B_var 0)))) (W_or1 (T_cmp op_lt lt_rd (PB.of (X_len rfl fx.len (AB_cons (B_var 0) (AB_nil)))) (B_var 2))))) (SS_cons (S_ret (X_bl)) (SS_nil)) (SS_nil)) (SS_cons (S_if (T_not (T_val (X_all kn rfl fx.all (AB_cons (PB.of (X_lc kn (I_list (X_var 0)) (blkOk_by (own := [("one", 3)]) (by kernel_rfl)) (fun s1 H1 C1 cl1 fp1 => G_name 3 kn.nd) (fun s1 H1 C1 cl1 fp1 => Ts_nil) (fun s1 H1 C1 cl1 fp1 => X_and (X_isi (by decide) rfl fx.isinstance rfl fx.str PyProof.Rows.boot_str (B_var 3)) (X_one (X_cmp (or_in (kn.blk s1 H1 _ _ fp1)) in_rd0 (B_var 3) (B_var 1)))))) (AB_nil))))) (SS_cons (S_ret (X_bl)) (SS_nil)) (SS_nil)) (SS_cons (S_ret (X_cmp (op_eqD kn.room.units) eq_rd (PB.of (X_lenSc kn rfl fx.len (I_list (X_var 0)) (blkOk_by (own := [("one", 3)]) (by kernel_rfl)) (fun s1 H1 C1 cl1 fp1 => G_name 3 kn.nd) (fun s1 H1 C1 cl1 fp1 => X_var 3))) (PB.of (X_len rfl fx.len (AB_cons (B_var 0) (AB_nil)))))) (SS_nil)))
abbrev s_are_letters : Stmt := top 15
theorem sc_are_letters : FnScope ["thing", "one"] ["thing"] (defScope s_are_letters) := ⟨rfl, rfl, rfl, by decide +kernel, rfl, by decide +kernel, by decide +kernel⟩
theorem d_are_letters (fx : Fx w K mg κ) (f_is_name : FnK P w K mg base κ "is_name" ["thing"] 1 F_is_name) (cdv : Value) (A : Around) (outer : List Env) (s : Shared) (H : Hp) (E : XK) (hr : Room 1 (A.deeper (PyProof.Rows.envOfC "are_letters" (defScope s_are_letters) s.heap.objs.size f cdv))) : PSsx κ (cxn P w K mg base ["thing", "one"] "are_letters" (defScope s_are_letters) f cdv A outer s H E) (defBody s_are_letters) T_are_letters := by
  have kn := kn_cxn (P := P) (w := w) (K := K) (mg := mg) (base := base) (outer := outer) (H := H) (E := E) sc_are_letters hr
  exact SS_cons (S_if (T_w (W_or (T_not (T_val (X_isi2 (by decide) (by decide) rfl fx.isinstance rfl fx.list PyProof.Rows.boot_list rfl fx.tuple PyProof.Rows.boot_tuple (B_var 0)))) (W_or1 (T_not (T_ch op_le op_le le_rd le_rd le_bl (PB.of (X_int)) (PB.of (X_len rfl fx.len (AB_cons (B_var 0) (AB_nil)))) (PB.of (X_globI fx.g_MOST_LETTERS))))))) (SS_cons (S_ret (X_bl)) (SS_nil)) (SS_nil)) (SS_cons (S_ret (X_and (X_all kn rfl fx.all (AB_cons (PB.of (X_lc kn (I_list (X_var 0)) (blkOk_by (own := [("one", 1)]) (by kernel_rfl)) (fun s1 H1 C1 cl1 fp1 => G_name 1 kn.nd) (fun s1 H1 C1 cl1 fp1 => Ts_nil) (fun s1 H1 C1 cl1 fp1 => X_callK (kn.blk s1 H1 _ _ fp1) f_is_name (by decide) (A_cons (X_var 1) (A_nil))))) (AB_nil))) (X_one (X_cmp (op_eqD kn.room.units) eq_rd (PB.of (X_lenSc kn rfl fx.len (I_list (X_var 0)) (blkOk_by (own := [("one", 1)]) (by kernel_rfl)) (fun s1 H1 C1 cl1 fp1 => G_name 1 kn.nd) (fun s1 H1 C1 cl1 fp1 => X_var 1))) (PB.of (X_len rfl fx.len (AB_cons (B_var 0) (AB_nil)))))))) (SS_nil))
abbrev s_are_places : Stmt := top 16
theorem sc_are_places : FnScope ["thing", "place", "sign"] ["thing"] (defScope s_are_places) := ⟨rfl, rfl, rfl, by decide +kernel, rfl, by decide +kernel, by decide +kernel⟩
theorem d_are_places (fx : Fx w K mg κ) (f_is_name : FnK P w K mg base κ "is_name" ["thing"] 1 F_is_name) (cdv : Value) (A : Around) (outer : List Env) (s : Shared) (H : Hp) (E : XK) (hr : Room 1 (A.deeper (PyProof.Rows.envOfC "are_places" (defScope s_are_places) s.heap.objs.size f cdv))) : PSsx κ (cxn P w K mg base ["thing", "place", "sign"] "are_places" (defScope s_are_places) f cdv A outer s H E) (defBody s_are_places) T_are_places := by
  have kn := kn_cxn (P := P) (w := w) (K := K) (mg := mg) (base := base) (outer := outer) (H := H) (E := E) sc_are_places hr
  exact SS_cons (S_if (T_w (W_or (T_not (T_val (X_isi (by decide) rfl fx.isinstance rfl fx.dict PyProof.Rows.boot_dict (B_var 0)))) (W_or1 (T_not (T_ch op_le op_le le_rd le_rd le_bl (PB.of (X_int)) (PB.of (X_len rfl fx.len (AB_cons (B_var 0) (AB_nil)))) (PB.of (X_globI fx.g_MOST_PLACES))))))) (SS_cons (S_ret (X_bl)) (SS_nil)) (SS_nil)) (SS_cons (S_ret (X_all kn rfl fx.all (AB_cons (PB.of (X_lcItems kn (K_var 0) (blkOk_by (own := [("place", 1), ("sign", 2)]) (by kernel_rfl)) (fun s1 H1 C1 cl1 fp1 => G_tup kn.calm (Gs_cons (G_name 1 kn.nd) (Gs_cons (G_name 2 kn.nd) (Gs_nil))) (gsC_len (gsC_len gs0_len))) (fun s1 H1 C1 cl1 fp1 => Ts_nil) (fun s1 H1 C1 cl1 fp1 => X_and (X_callK (kn.blk s1 H1 _ _ fp1) f_is_name (by decide) (A_cons (X_var 1) (A_nil))) (X_one (X_callK (kn.blk s1 H1 _ _ fp1) f_is_name (by decide) (A_cons (X_var 2) (A_nil))))))) (AB_nil)))) (SS_nil))
abbrev s_are_ways : Stmt := top 17
theorem sc_are_ways : FnScope ["thing", "letters", "places", "pairs", "place", "letter", "pair"] ["thing", "letters", "places"] (defScope s_are_ways) := ⟨rfl, rfl, rfl, by decide +kernel, rfl, by decide +kernel, by decide +kernel⟩
theorem d_are_ways (fx : Fx w K mg κ) (f_are_some : FnK P w K mg base κ "are_some" ["thing", "names", "least"] 1 F_are_some) (cdv : Value) (A : Around) (outer : List Env) (s : Shared) (H : Hp) (E : XK) (hr : Room 1 (A.deeper (PyProof.Rows.envOfC "are_ways" (defScope s_are_ways) s.heap.objs.size f cdv))) : PSsx κ (cxn P w K mg base ["thing", "letters", "places", "pairs", "place", "letter", "pair"] "are_ways" (defScope s_are_ways) f cdv A outer s H E) (defBody s_are_ways) T_are_ways := by
  have kn := kn_cxn (P := P) (w := w) (K := K) (mg := mg) (base := base) (outer := outer) (H := H) (E := E) sc_are_ways hr
  exact SS_cons (S_if (T_w (W_or (T_not (T_val (X_isi (by decide) rfl fx.isinstance rfl fx.dict PyProof.Rows.boot_dict (B_var 0)))) (W_or1 (T_cmp (op_neD kn.room.units) ne_rd (PB.of (X_len rfl fx.len (AB_cons (B_var 0) (AB_nil)))) (PB.of (X_mul (PB.of (X_len rfl fx.len (AB_cons (B_var 1) (AB_nil)))) (PB.of (X_len rfl fx.len (AB_cons (B_var 2) (AB_nil)))))))))) (SS_cons (S_ret (X_bl)) (SS_nil)) (SS_nil)) (SS_cons (S_setLc2 3 (w1 := [5]) kn (I_list (X_var 2)) (blkOk_by (own := [("place", 4), ("letter", 5)]) (by kernel_rfl)) (fun s1 H1 C1 cl1 fp1 => G_name 4 kn.nd) (fun s1 H1 C1 cl1 fp1 => I_list (X_var 1)) (fun s1 H1 C1 cl1 fp1 => G_name 5 kn.nd) (fun s1 H1 C1 cl1 fp1 => X_tup (A_cons (X_var 4) (A_cons (X_var 5) (A_nil))))) (SS_cons (S_ret (X_all kn rfl fx.all (AB_cons (PB.of (X_lc kn (I_list (X_var 3)) (blkOk_by (own := [("pair", 6)]) (by kernel_rfl)) (fun s1 H1 C1 cl1 fp1 => G_name 6 kn.nd) (fun s1 H1 C1 cl1 fp1 => Ts_nil) (fun s1 H1 C1 cl1 fp1 => X_and (X_cmp (or_in (kn.blk s1 H1 _ _ fp1)) in_rd0 (B_var 6) (B_var 0)) (X_one (X_callK (kn.blk s1 H1 _ _ fp1) f_are_some (by decide) (A_cons (X_sub2 (kn.blk s1 H1 _ _ fp1) (B_var 0) (X_var 6)) (A_cons (X_var 2) (A_cons (X_int) (A_nil))))))))) (AB_nil)))) (SS_nil)))
abbrev s_in_turn : Stmt := clsAt (top 18) 1
theorem sc_in_turn : FnScope ["self", "some", "place"] ["self", "some"] (defScope s_in_turn) := ⟨rfl, rfl, rfl, by decide +kernel, rfl, by decide +kernel, by decide +kernel⟩
theorem d_in_turn (fx : Fx w K mg κ)  (cdv : Value) (A : Around) (outer : List Env) (s : Shared) (H : Hp) (E : XK) (hr : Room 0 (A.deeper (PyProof.Rows.envOfC "Web.in_turn" (defScope s_in_turn) s.heap.objs.size f cdv))) : PSsx κ (cxn P w K mg base ["self", "some", "place"] "Web.in_turn" (defScope s_in_turn) f cdv A outer s H E) (defBody s_in_turn) T_in_turn := by
  have kn := kn_cxn (P := P) (w := w) (K := K) (mg := mg) (base := base) (outer := outer) (H := H) (E := E) sc_in_turn hr
  exact SS_cons (S_ret (X_tuple rfl fx.tuple (AB_cons (PB.of (X_lcKeys kn (K_fld fx.cls fx.na_known (K_var 0)) (blkOk_by (own := [("place", 2)]) (by kernel_rfl)) (fun s1 H1 C1 cl1 fp1 => G_name 2 kn.nd) (fun s1 H1 C1 cl1 fp1 => Ts_one (T_cmp (or_in (kn.blk s1 H1 _ _ fp1)) in_rd0 (B_var 2) (B_var 1))) (fun s1 H1 C1 cl1 fp1 => X_var 2))) (AB_nil)))) (SS_nil)
abbrev s_init : Stmt := clsAt (top 18) 0
theorem sc_init : FnScope ["self", "letters", "places", "begins", "ways", "place", "one"] ["self", "letters", "places", "begins", "ways"] (defScope s_init) := ⟨rfl, rfl, rfl, by decide +kernel, rfl, by decide +kernel, by decide +kernel⟩
theorem d_init (fx : Fx w K mg κ) (e_in_turn : MeK P w K mg base κ 0 "in_turn" ["self", "some"] 1 F_in_turn) (f_are_ways : FnK P w K mg base κ "are_ways" ["thing", "letters", "places"] 2 F_are_ways) (f_are_some : FnK P w K mg base κ "are_some" ["thing", "names", "least"] 1 F_are_some) (f_are_places : FnK P w K mg base κ "are_places" ["thing"] 2 F_are_places) (f_are_letters : FnK P w K mg base κ "are_letters" ["thing"] 2 F_are_letters) (cdv : Value) (A : Around) (outer : List Env) (s : Shared) (H : Hp) (E : XK) (hr : Room 2 (A.deeper (PyProof.Rows.envOfC "Web.__init__" (defScope s_init) s.heap.objs.size f cdv))) : PSsx κ (cxn P w K mg base ["self", "letters", "places", "begins", "ways", "place", "one"] "Web.__init__" (defScope s_init) f cdv A outer s H E) (defBody s_init) T_init := by
  have kn := kn_cxn (P := P) (w := w) (K := K) (mg := mg) (base := base) (outer := outer) (H := H) (E := E) sc_init hr
  exact SS_cons (S_if (T_not (T_val (X_callK kn f_are_letters (by decide) (A_cons (X_var 1) (A_nil))))) (SS_cons (S_never) (SS_nil)) (SS_nil)) (SS_cons (S_if (T_not (T_val (X_callK kn f_are_places (by decide) (A_cons (X_var 2) (A_nil))))) (SS_cons (S_never) (SS_nil)) (SS_nil)) (SS_cons (S_if (T_not (T_val (X_callK kn f_are_some (by decide) (A_cons (X_var 3) (A_cons (X_list kn rfl fx.list (AB_cons (B_var 2) (AB_nil))) (A_cons (X_int) (A_nil))))))) (SS_cons (S_never) (SS_nil)) (SS_nil)) (SS_cons (S_if (T_not (T_val (X_callK kn f_are_ways (by decide) (A_cons (X_var 4) (A_cons (X_var 1) (A_cons (X_list kn rfl fx.list (AB_cons (B_var 2) (AB_nil))) (A_nil))))))) (SS_cons (S_never) (SS_nil)) (SS_nil)) (SS_cons (S_fld 0 fx.cls fx.na_moves (X_list kn rfl fx.list (AB_cons (B_var 1) (AB_nil)))) (SS_cons (S_fld 0 fx.cls fx.na_known (X_dictD rfl fx.dict (AB_cons (B_var 2) (AB_nil)))) (SS_cons (S_fld 0 fx.cls fx.na_first (X_methOK 0 kn fx.cls e_in_turn (by decide) (A_cons (X_var 3) (A_nil)))) (SS_cons (S_fld 0 fx.cls fx.na_leads (X_dc2Keys false (w1 := [6]) kn (K_var 2) (blkOk_by (own := [("place", 5), ("one", 6)]) (by kernel_rfl)) (fun s1 H1 C1 cl1 fp1 => G_name 5 kn.nd) (fun s1 H1 C1 cl1 fp1 => I_list (X_var 1)) (fun s1 H1 C1 cl1 fp1 => G_name 6 kn.nd) (fun s1 H1 C1 cl1 fp1 => X_tup (A_cons (X_var 5) (A_cons (X_var 6) (A_nil)))) (fun s1 H1 C1 cl1 fp1 => X_methOK 0 (kn.blk s1 H1 _ _ fp1) fx.cls e_in_turn (by decide) (A_cons (X_sub2 (kn.blk s1 H1 _ _ fp1) (B_var 4) (X_tup (A_cons (X_var 5) (A_cons (X_var 6) (A_nil))))) (A_nil))))) (SS_nil))))))))
abbrev s_signs : Stmt := clsAt (top 18) 7
theorem sc_signs : FnScope ["self", "sign"] ["self"] (defScope s_signs) := ⟨rfl, rfl, rfl, by decide +kernel, rfl, by decide +kernel, by decide +kernel⟩
theorem d_signs (fx : Fx w K mg κ)  (cdv : Value) (A : Around) (outer : List Env) (s : Shared) (H : Hp) (E : XK) (hr : Room 0 (A.deeper (PyProof.Rows.envOfC "Web.signs" (defScope s_signs) s.heap.objs.size f cdv))) : PSsx κ (cxn P w K mg base ["self", "sign"] "Web.signs" (defScope s_signs) f cdv A outer s H E) (defBody s_signs) T_signs := by
  have kn := kn_cxn (P := P) (w := w) (K := K) (mg := mg) (base := base) (outer := outer) (H := H) (E := E) sc_signs hr
  exact SS_cons (S_ret (X_sort fx.wd kn (by rfl) fx.sorted (SV_scVals fx.wd kn (K_fld fx.cls fx.na_known (K_var 0)) (blkOk_by (own := [("sign", 1)]) (by kernel_rfl)) (fun s1 H1 C1 cl1 fp1 => G_name 1 kn.nd) (fun s1 H1 C1 cl1 fp1 => X_var 1)))) (SS_nil)
abbrev s_reached : Stmt := clsAt (top 18) 8
theorem sc_reached : FnScope ["self", "some", "letter", "found", "place", "there"] ["self", "some", "letter"] (defScope s_reached) := ⟨rfl, rfl, rfl, by decide +kernel, rfl, by decide +kernel, by decide +kernel⟩
theorem d_reached (fx : Fx w K mg κ) (e_in_turn : MeK P w K mg base κ 0 "in_turn" ["self", "some"] 1 F_in_turn) (cdv : Value) (A : Around) (outer : List Env) (s : Shared) (H : Hp) (E : XK) (hr : Room 1 (A.deeper (PyProof.Rows.envOfC "Web.reached" (defScope s_reached) s.heap.objs.size f cdv))) : PSsx κ (cxn P w K mg base ["self", "some", "letter", "found", "place", "there"] "Web.reached" (defScope s_reached) f cdv A outer s H E) (defBody s_reached) T_reached := by
  have kn := kn_cxn (P := P) (w := w) (K := K) (mg := mg) (base := base) (outer := outer) (H := H) (E := E) sc_reached hr
  exact SS_cons (S_setDc2 3 true (w1 := [5]) kn (I_tup (X_var 1)) (blkOk_by (own := [("place", 4), ("there", 5)]) (by kernel_rfl)) (fun s1 H1 C1 cl1 fp1 => G_name 4 kn.nd) (fun s1 H1 C1 cl1 fp1 => I_tup (X_sub2 (kn.blk s1 H1 _ _ fp1) (PB.of (X_fldK (B_var 0) fx.cls fx.na_leads)) (X_tup (A_cons (X_var 4) (A_cons (X_var 2) (A_nil)))))) (fun s1 H1 C1 cl1 fp1 => G_name 5 kn.nd) (fun s1 H1 C1 cl1 fp1 => X_var 5) (fun s1 H1 C1 cl1 fp1 => X_bl)) (SS_cons (S_ret (X_methK kn fx.cls e_in_turn (by decide) (X_var 0) (A_cons (X_var 3) (A_nil)))) (SS_nil))
abbrev s_at_sign : Stmt := clsAt (top 18) 9
theorem sc_at_sign : FnScope ["self", "some", "sign", "place"] ["self", "some", "sign"] (defScope s_at_sign) := ⟨rfl, rfl, rfl, by decide +kernel, rfl, by decide +kernel, by decide +kernel⟩
theorem d_at_sign (fx : Fx w K mg κ)  (cdv : Value) (A : Around) (outer : List Env) (s : Shared) (H : Hp) (E : XK) (hr : Room 0 (A.deeper (PyProof.Rows.envOfC "Web.at_sign" (defScope s_at_sign) s.heap.objs.size f cdv))) : PSsx κ (cxn P w K mg base ["self", "some", "sign", "place"] "Web.at_sign" (defScope s_at_sign) f cdv A outer s H E) (defBody s_at_sign) T_at_sign := by
  have kn := kn_cxn (P := P) (w := w) (K := K) (mg := mg) (base := base) (outer := outer) (H := H) (E := E) sc_at_sign hr
  exact SS_cons (S_ret (X_tuple rfl fx.tuple (AB_cons (PB.of (X_lc kn (I_tup (X_var 1)) (blkOk_by (own := [("place", 3)]) (by kernel_rfl)) (fun s1 H1 C1 cl1 fp1 => G_name 3 kn.nd) (fun s1 H1 C1 cl1 fp1 => Ts_one (T_cmp (op_eqD kn.room.units) eq_rd (PB.of (X_sub2 (kn.blk s1 H1 _ _ fp1) (PB.of (X_fldK (B_var 0) fx.cls fx.na_known)) (X_var 3))) (B_var 2))) (fun s1 H1 C1 cl1 fp1 => X_var 3))) (AB_nil)))) (SS_nil)
abbrev s_is_number : Stmt := top 21
theorem sc_is_number : FnScope ["thing", "least", "most"] ["thing", "least", "most"] (defScope s_is_number) := ⟨rfl, rfl, rfl, by decide +kernel, rfl, by decide +kernel, by decide +kernel⟩
theorem d_is_number (fx : Fx w K mg κ)  (cdv : Value) (A : Around) (outer : List Env) (s : Shared) (H : Hp) (E : XK) (hr : Room 0 (A.deeper (PyProof.Rows.envOfC "is_number" (defScope s_is_number) s.heap.objs.size f cdv))) : PSsx κ (cxn P w K mg base ["thing", "least", "most"] "is_number" (defScope s_is_number) f cdv A outer s H E) (defBody s_is_number) T_is_number := by
  have kn := kn_cxn (P := P) (w := w) (K := K) (mg := mg) (base := base) (outer := outer) (H := H) (E := E) sc_is_number hr
  exact SS_cons (S_ret (X_and (X_isi (by decide) rfl fx.isinstance rfl fx.int PyProof.Rows.boot_int (B_var 0)) (X_and (X_not (X_isi (by decide) rfl fx.isinstance rfl fx.bool PyProof.Rows.boot_bool (B_var 0))) (X_one (X_ch op_le op_le le_rd le_rd le_bl (B_var 1) (B_var 0) (B_var 2)))))) (SS_nil)
abbrev s_are_goes : Stmt := top 22
theorem sc_are_goes : FnScope ["thing", "signs", "many", "one", "sign"] ["thing", "signs", "many"] (defScope s_are_goes) := ⟨rfl, rfl, rfl, by decide +kernel, rfl, by decide +kernel, by decide +kernel⟩
theorem d_are_goes (fx : Fx w K mg κ) (f_is_number : FnK P w K mg base κ "is_number" ["thing", "least", "most"] 1 F_is_number) (cdv : Value) (A : Around) (outer : List Env) (s : Shared) (H : Hp) (E : XK) (hr : Room 1 (A.deeper (PyProof.Rows.envOfC "are_goes" (defScope s_are_goes) s.heap.objs.size f cdv))) : PSsx κ (cxn P w K mg base ["thing", "signs", "many", "one", "sign"] "are_goes" (defScope s_are_goes) f cdv A outer s H E) (defBody s_are_goes) T_are_goes := by
  have kn := kn_cxn (P := P) (w := w) (K := K) (mg := mg) (base := base) (outer := outer) (H := H) (E := E) sc_are_goes hr
  exact SS_cons (S_if (T_w (W_or (T_not (T_val (X_isi (by decide) rfl fx.isinstance rfl fx.dict PyProof.Rows.boot_dict (B_var 0)))) (W_or (T_cmp (op_neD kn.room.units) ne_rd (PB.of (X_len rfl fx.len (AB_cons (B_var 0) (AB_nil)))) (PB.of (X_len rfl fx.len (AB_cons (B_var 1) (AB_nil))))) (W_or1 (T_not (T_val (X_all kn rfl fx.all (AB_cons (PB.of (X_lc kn (I_list (X_var 1)) (blkOk_by (own := [("sign", 4)]) (by kernel_rfl)) (fun s1 H1 C1 cl1 fp1 => G_name 4 kn.nd) (fun s1 H1 C1 cl1 fp1 => Ts_nil) (fun s1 H1 C1 cl1 fp1 => X_cmp (or_in (kn.blk s1 H1 _ _ fp1)) in_rd0 (B_var 4) (B_var 0)))) (AB_nil))))))))) (SS_cons (S_ret (X_bl)) (SS_nil)) (SS_nil)) (SS_cons (S_ret (X_all kn rfl fx.all (AB_cons (PB.of (X_lcVals kn (K_var 0) (blkOk_by (own := [("one", 3)]) (by kernel_rfl)) (fun s1 H1 C1 cl1 fp1 => G_name 3 kn.nd) (fun s1 H1 C1 cl1 fp1 => Ts_nil) (fun s1 H1 C1 cl1 fp1 => X_callK (kn.blk s1 H1 _ _ fp1) f_is_number (by decide) (A_cons (X_var 3) (A_cons (X_int) (A_cons (X_sub (B_var 2) (PB.of (X_int))) (A_nil))))))) (AB_nil)))) (SS_nil))
abbrev s_check_plan : Stmt := top 23
theorem sc_check_plan : FnScope ["begins", "steps", "step", "sign"] ["begins", "steps"] (defScope s_check_plan) := ⟨rfl, rfl, rfl, by decide +kernel, rfl, by decide +kernel, by decide +kernel⟩
theorem d_check_plan (fx : Fx w K mg κ) (f_are_goes : FnK P w K mg base κ "are_goes" ["thing", "signs", "many"] 2 F_are_goes) (f_is_name : FnK P w K mg base κ "is_name" ["thing"] 1 F_is_name) (cdv : Value) (A : Around) (outer : List Env) (s : Shared) (H : Hp) (E : XK) (hr : Room 2 (A.deeper (PyProof.Rows.envOfC "check_plan" (defScope s_check_plan) s.heap.objs.size f cdv))) : PSsx κ (cxn P w K mg base ["begins", "steps", "step", "sign"] "check_plan" (defScope s_check_plan) f cdv A outer s H E) (defBody s_check_plan) T_check_plan := by
  have kn := kn_cxn (P := P) (w := w) (K := K) (mg := mg) (base := base) (outer := outer) (H := H) (E := E) sc_check_plan hr
  exact SS_cons (S_if (T_w (W_or (T_not (T_val (X_isi (by decide) rfl fx.isinstance rfl fx.dict PyProof.Rows.boot_dict (B_var 0)))) (W_or (T_cmp (op_eqE kn.room.units0) eqE_rd (B_var 0) (PB.of X_dct0)) (W_or1 (T_not (T_val (X_all kn rfl fx.all (AB_cons (PB.of (X_lcKeys kn (K_var 0) (blkOk_by (own := [("sign", 3)]) (by kernel_rfl)) (fun s1 H1 C1 cl1 fp1 => G_name 3 kn.nd) (fun s1 H1 C1 cl1 fp1 => Ts_nil) (fun s1 H1 C1 cl1 fp1 => X_callK (kn.blk s1 H1 _ _ fp1) f_is_name (by decide) (A_cons (X_var 3) (A_nil))))) (AB_nil))))))))) (SS_cons (S_never) (SS_nil)) (SS_nil)) (SS_cons (S_if (T_w (W_or (T_not (T_val (X_isi (by decide) rfl fx.isinstance rfl fx.list PyProof.Rows.boot_list (B_var 1)))) (W_or1 (T_not (T_ch op_le op_le le_rd le_rd le_bl (PB.of (X_int)) (PB.of (X_len rfl fx.len (AB_cons (B_var 1) (AB_nil)))) (PB.of (X_globI fx.g_MOST_STEPS))))))) (SS_cons (S_never) (SS_nil)) (SS_nil)) (SS_cons (S_if (T_not (T_val (X_callK kn f_are_goes (by decide) (A_cons (X_var 0) (A_cons (X_list kn rfl fx.list (AB_cons (B_var 0) (AB_nil))) (A_cons (X_len rfl fx.len (AB_cons (B_var 1) (AB_nil))) (A_nil))))))) (SS_cons (S_never) (SS_nil)) (SS_nil)) (SS_cons (S_for kn PassesOwn.never (I_list (X_var 1)) (GS_name 2 kn.nd) (SS_cons (S_if (T_w (W_or (T_not (T_val (X_isi (by decide) rfl fx.isinstance rfl fx.tuple PyProof.Rows.boot_tuple (B_var 2)))) (W_or (T_cmp (op_neD kn.room.units) ne_rd (PB.of (X_len rfl fx.len (AB_cons (B_var 2) (AB_nil)))) (PB.of (X_int))) (W_or1 (T_not (T_val (X_callK kn f_is_name (by decide) (A_cons (X_sub2 kn (B_var 2) (X_int)) (A_nil))))))))) (SS_cons (S_never) (SS_nil)) (SS_nil)) (SS_cons (S_if (T_not (T_val (X_callK kn f_are_goes (by decide) (A_cons (X_sub2 kn (B_var 2) (X_int)) (A_cons (X_list kn rfl fx.list (AB_cons (B_var 0) (AB_nil))) (A_cons (X_len rfl fx.len (AB_cons (B_var 1) (AB_nil))) (A_nil))))))) (SS_cons (S_never) (SS_nil)) (SS_nil)) (SS_nil)))) (SS_nil))))
abbrev s_initP : Stmt := clsAt (top 24) 0
theorem sc_initP : FnScope ["self", "begins", "steps", "sign", "move", "goes"] ["self", "begins", "steps"] (defScope s_initP) := ⟨rfl, rfl, rfl, by decide +kernel, rfl, by decide +kernel, by decide +kernel⟩
theorem d_initP (fx : Fx w K mg κ) (f_check_plan : FnK P w K mg base κ "check_plan" ["begins", "steps"] 3 F_check_plan) (cdv : Value) (A : Around) (outer : List Env) (s : Shared) (H : Hp) (E : XK) (hr : Room 3 (A.deeper (PyProof.Rows.envOfC "Plan.__init__" (defScope s_initP) s.heap.objs.size f cdv))) : PSsx κ (cxn P w K mg base ["self", "begins", "steps", "sign", "move", "goes"] "Plan.__init__" (defScope s_initP) f cdv A outer s H E) (defBody s_initP) T_initP := by
  have kn := kn_cxn (P := P) (w := w) (K := K) (mg := mg) (base := base) (outer := outer) (H := H) (E := E) sc_initP hr
  exact SS_cons (S_expr (X_callK kn f_check_plan (by decide) (A_cons (X_var 1) (A_cons (X_var 2) (A_nil))))) (SS_cons (S_fld 0 fx.cls1 fx.na1_opens (X_dc kn (I_list (X_sortD kn (by rfl) fx.sorted (B_var 1))) (blkOk_by (own := [("sign", 3)]) (by kernel_rfl)) (fun s1 H1 C1 cl1 fp1 => G_name 3 kn.nd) (fun s1 H1 C1 cl1 fp1 => Ts_nil) (fun s1 H1 C1 cl1 fp1 => X_var 3) (fun s1 H1 C1 cl1 fp1 => X_sub2 (kn.blk s1 H1 _ _ fp1) (B_var 1) (X_var 3)))) (SS_cons (S_fld 0 fx.cls1 fx.na1_line (X_lc kn (I_list (X_var 2)) (blkOk_by (own := [("move", 4), ("goes", 5)]) (by kernel_rfl)) (fun s1 H1 C1 cl1 fp1 => G_tup kn.calm (Gs_cons (G_name 4 kn.nd) (Gs_cons (G_name 5 kn.nd) (Gs_nil))) (gsC_len (gsC_len gs0_len))) (fun s1 H1 C1 cl1 fp1 => Ts_nil) (fun s1 H1 C1 cl1 fp1 => X_tup (A_cons (X_var 4) (A_cons (X_dc (kn.blk s1 H1 _ _ fp1) (I_list (X_sortD (kn.blk s1 H1 _ _ fp1) (by rfl) fx.sorted (B_var 5))) (blkOk_by (own := [("sign", 3)]) (by kernel_rfl)) (fun s2 H2 C2 cl2 fp2 => G_name 3 kn.nd) (fun s2 H2 C2 cl2 fp2 => Ts_nil) (fun s2 H2 C2 cl2 fp2 => X_var 3) (fun s2 H2 C2 cl2 fp2 => X_sub2 ((kn.blk s1 H1 _ _ fp1).blk s2 H2 _ _ fp2) (B_var 5) (X_var 3))) (A_nil)))))) (SS_nil)))
abbrev s_fits : Stmt := clsAt (top 24) 3
theorem sc_fits : FnScope ["self", "web", "move", "goes"] ["self", "web"] (defScope s_fits) := ⟨rfl, rfl, rfl, by decide +kernel, rfl, by decide +kernel, by decide +kernel⟩
theorem d_fits (fx : Fx w K mg κ) (e_signs : MeK P w K mg base κ 0 "signs" ["self"] 1 F_signs) (cdv : Value) (A : Around) (outer : List Env) (s : Shared) (H : Hp) (E : XK) (hr : Room 1 (A.deeper (PyProof.Rows.envOfC "Plan.fits" (defScope s_fits) s.heap.objs.size f cdv))) : PSsx κ (cxn P w K mg base ["self", "web", "move", "goes"] "Plan.fits" (defScope s_fits) f cdv A outer s H E) (defBody s_fits) T_fits := by
  have kn := kn_cxn (P := P) (w := w) (K := K) (mg := mg) (base := base) (outer := outer) (H := H) (E := E) sc_fits hr
  exact SS_cons (S_ret (X_and (X_cmp (op_eqD kn.room.units) eq_rd (PB.of (X_list kn rfl fx.list (AB_cons (PB.of (X_fldK (B_var 0) fx.cls1 fx.na1_opens)) (AB_nil)))) (PB.of (X_meth0K kn fx.cls e_signs (by decide) (X_var 1)))) (X_one (X_all kn rfl fx.all (AB_cons (PB.of (X_lc kn (I_list (X_fldK (B_var 0) fx.cls1 fx.na1_line)) (blkOk_by (own := [("move", 2), ("goes", 3)]) (by kernel_rfl)) (fun s1 H1 C1 cl1 fp1 => G_tup kn.calm (Gs_cons (G_name 2 kn.nd) (Gs_cons (G_name 3 kn.nd) (Gs_nil))) (gsC_len (gsC_len gs0_len))) (fun s1 H1 C1 cl1 fp1 => Ts_nil) (fun s1 H1 C1 cl1 fp1 => X_cmp (or_in (kn.blk s1 H1 _ _ fp1)) in_rd0 (B_var 2) (PB.of (X_fldK (B_var 1) fx.cls fx.na_moves))))) (AB_nil)))))) (SS_nil)
abbrev s_check_fits : Stmt := top 26
theorem sc_check_fits : FnScope ["web", "plan"] ["web", "plan"] (defScope s_check_fits) := ⟨rfl, rfl, rfl, by decide +kernel, rfl, by decide +kernel, by decide +kernel⟩
theorem d_check_fits (fx : Fx w K mg κ) (e_fits : MeK P w K mg base κ 1 "fits" ["self", "web"] 2 F_fits) (cdv : Value) (A : Around) (outer : List Env) (s : Shared) (H : Hp) (E : XK) (hr : Room 2 (A.deeper (PyProof.Rows.envOfC "check_fits" (defScope s_check_fits) s.heap.objs.size f cdv))) : PSsx κ (cxn P w K mg base ["web", "plan"] "check_fits" (defScope s_check_fits) f cdv A outer s H E) (defBody s_check_fits) T_check_fits := by
  have kn := kn_cxn (P := P) (w := w) (K := K) (mg := mg) (base := base) (outer := outer) (H := H) (E := E) sc_check_fits hr
  exact SS_cons (S_if (T_w (W_or (T_not (T_val (X_isiC fx.cls1 fx.isc1 rfl fx.isinstance rfl fx.gc_Plan (B_var 1)))) (W_or1 (T_not (T_val (X_methK kn fx.cls1 e_fits (by decide) (X_var 1) (A_cons (X_var 0) (A_nil)))))))) (SS_cons (S_never) (SS_nil)) (SS_nil)) (SS_nil)
abbrev s_apart : Stmt := top 27
theorem sc_apart : FnScope ["web", "one", "other", "line", "known", "sign", "mine", "theirs", "some", "row", "move", "there", "goes"] ["web", "one", "other"] (defScope s_apart) := ⟨rfl, rfl, rfl, by decide +kernel, rfl, by decide +kernel, by decide +kernel⟩
theorem d_apart (fx : Fx w K mg κ) (e_signs : MeK P w K mg base κ 0 "signs" ["self"] 1 F_signs) (e_at_sign : MeK P w K mg base κ 0 "at_sign" ["self", "some", "sign"] 1 F_at_sign) (e_reached : MeK P w K mg base κ 0 "reached" ["self", "some", "letter"] 2 F_reached) (f_check_fits : FnK P w K mg base κ "check_fits" ["web", "plan"] 3 F_check_fits) (cdv : Value) (A : Around) (outer : List Env) (s : Shared) (H : Hp) (E : XK) (hr : Room 3 (A.deeper (PyProof.Rows.envOfC "apart" (defScope s_apart) s.heap.objs.size f cdv))) : PSsx κ (cxn P w K mg base ["web", "one", "other", "line", "known", "sign", "mine", "theirs", "some", "row", "move", "there", "goes"] "apart" (defScope s_apart) f cdv A outer s H E) (defBody s_apart) T_apart := by
  have kn := kn_cxn (P := P) (w := w) (K := K) (mg := mg) (base := base) (outer := outer) (H := H) (E := E) sc_apart hr
  exact SS_cons (S_expr (X_callK kn f_check_fits (by decide) (A_cons (X_var 0) (A_cons (X_var 1) (A_nil))))) (SS_cons (S_expr (X_callK kn f_check_fits (by decide) (A_cons (X_var 0) (A_cons (X_var 2) (A_nil))))) (SS_cons (S_par2 3 4 kn (AN_cons (N_lst0) (AN_cons (N_dn0 fx.wd) AN_nil))) (SS_cons (S_for kn PassesOwn.never (I_list (X_meth0K kn fx.cls e_signs (by decide) (X_var 0))) (GS_name 5 kn.nd) (SS_cons (S_if (T_cmp (op_neD kn.room.units) ne_rd (PB.of (X_methK kn fx.cls e_at_sign (by decide) (X_var 0) (A_cons (X_fldK (B_var 0) fx.cls fx.na_first) (A_cons (X_var 5) (A_nil))))) (PB.of (X_tup (A_nil)))) (SS_cons (S_app 3 (X_tup (A_cons (X_sub2 kn (PB.of (X_fldK (B_var 1) fx.cls1 fx.na1_opens)) (X_var 5)) (A_cons (X_sub2 kn (PB.of (X_fldK (B_var 2) fx.cls1 fx.na1_opens)) (X_var 5)) (A_cons (X_methK kn fx.cls e_at_sign (by decide) (X_var 0) (A_cons (X_fldK (B_var 0) fx.cls fx.na_first) (A_cons (X_var 5) (A_nil)))) (A_cons (X_lst (A_cons (X_var 5) (A_nil))) (A_nil))))))) (SS_nil)) (SS_nil)) (SS_nil))) (SS_cons (S_while PassesOwn.never (T_cmp (op_neD kn.room.units) ne_rd (B_var 3) (PB.of (X_lst (A_nil)))) (SS_cons (S_star 3 3 kn (G_tup kn.calm (Gs_cons (G_name 6 kn.nd) (Gs_cons (G_name 7 kn.nd) (Gs_cons (G_name 8 kn.nd) (Gs_cons (G_name 9 kn.nd) (Gs_nil))))) (gsC_len (gsC_len (gsC_len (gsC_len gs0_len)))))) (SS_cons (S_set 10 kn.nd (N_sh (X_sub2 kn (PB.of (X_sub2 kn (PB.of (X_fldK (B_var 1) fx.cls1 fx.na1_line)) (X_var 6))) (X_int)))) (SS_cons (S_if (T_cmp (op_neD kn.room.units) ne_rd (B_var 10) (PB.of (X_sub2 kn (PB.of (X_sub2 kn (PB.of (X_fldK (B_var 2) fx.cls1 fx.na1_line)) (X_var 7))) (X_int)))) (SS_cons (S_ret (X_var 9)) (SS_nil)) (SS_nil)) (SS_cons (S_if (T_notInN 4 kn fx.wd (X_tup (A_cons (X_var 6) (A_cons (X_var 7) (A_cons (X_var 8) (A_nil)))))) (SS_cons (S_dputN 4 kn fx.wd (X_tup (A_cons (X_var 6) (A_cons (X_var 7) (A_cons (X_var 8) (A_nil))))) (X_bl)) (SS_cons (S_set 11 kn.nd (N_sh (X_methK kn fx.cls e_reached (by decide) (X_var 0) (A_cons (X_var 8) (A_cons (X_var 10) (A_nil)))))) (SS_cons (S_for kn PassesOwn.never (I_list (X_meth0K kn fx.cls e_signs (by decide) (X_var 0))) (GS_name 5 kn.nd) (SS_cons (S_if (T_cmp (op_neD kn.room.units) ne_rd (PB.of (X_methK kn fx.cls e_at_sign (by decide) (X_var 0) (A_cons (X_var 11) (A_cons (X_var 5) (A_nil))))) (PB.of (X_tup (A_nil)))) (SS_cons (S_set 12 kn.nd (N_sh (X_tup (A_cons (X_sub2 kn (PB.of (X_sub2 kn (PB.of (X_sub2 kn (PB.of (X_fldK (B_var 1) fx.cls1 fx.na1_line)) (X_var 6))) (X_int))) (X_var 5)) (A_cons (X_sub2 kn (PB.of (X_sub2 kn (PB.of (X_sub2 kn (PB.of (X_fldK (B_var 2) fx.cls1 fx.na1_line)) (X_var 7))) (X_int))) (X_var 5)) (A_nil)))))) (SS_cons (S_app 3 (X_plus (X_var 12) (X_tup (A_cons (X_methK kn fx.cls e_at_sign (by decide) (X_var 0) (A_cons (X_var 11) (A_cons (X_var 5) (A_nil)))) (A_cons (X_plus (X_var 9) (X_lst (A_cons (X_var 5) (A_nil)))) (A_nil)))))) (SS_nil))) (SS_nil)) (SS_nil))) (SS_nil)))) (SS_nil)) (SS_nil)))))) (SS_cons (S_ret (X_non)) (SS_nil))))))
abbrev s__law_draw : Stmt := top 29
theorem sc__law_draw : FnScope ["_law_cell", "_law_k", "_law_many", "_law_primes"] ["_law_cell", "_law_k", "_law_many"] (defScope s__law_draw) := ⟨rfl, rfl, rfl, by decide +kernel, rfl, by decide +kernel, by decide +kernel⟩
theorem d__law_draw (fx : Fx w K mg κ)  (cdv : Value) (A : Around) (outer : List Env) (s : Shared) (H : Hp) (E : XK) (hr : Room 0 (A.deeper (PyProof.Rows.envOfC "_law_draw" (defScope s__law_draw) s.heap.objs.size f cdv))) : PSsx κ (cxn P w K mg base ["_law_cell", "_law_k", "_law_many", "_law_primes"] "_law_draw" (defScope s__law_draw) f cdv A outer s H E) (defBody s__law_draw) T__law_draw := by
  have kn := kn_cxn (P := P) (w := w) (K := K) (mg := mg) (base := base) (outer := outer) (H := H) (E := E) sc__law_draw hr
  exact SS_cons (S_set 3 kn.nd (N_sh (X_tup (A_cons (X_int) (A_cons (X_int) (A_cons (X_int) (A_cons (X_int) (A_cons (X_int) (A_cons (X_int) (A_cons (X_int) (A_cons (X_int) (A_cons (X_int) (A_cons (X_int) (A_cons (X_int) (A_cons (X_int) (A_cons (X_int) (A_cons (X_int) (A_cons (X_int) (A_cons (X_int) (A_nil)))))))))))))))))))) (SS_cons (S_ret (X_mod (PB.of (X_mod (PB.of (X_plus (X_mul (B_var 0) (PB.of (X_int))) (X_mul (B_var 1) (PB.of (X_int))))) (PB.of (X_sub2 kn (B_var 3) (X_mod (B_var 1) (PB.of (X_int))))))) (B_var 2))) (SS_nil))
abbrev s__law_cell_at : Stmt := top 30
theorem sc__law_cell_at : FnScope ["_law_script", "_law_k"] ["_law_script", "_law_k"] (defScope s__law_cell_at) := ⟨rfl, rfl, rfl, by decide +kernel, rfl, by decide +kernel, by decide +kernel⟩
theorem d__law_cell_at (fx : Fx w K mg κ) (f__law_draw : FnK P w K mg base κ "_law_draw" ["_law_cell", "_law_k", "_law_many"] 1 F__law_draw) (cdv : Value) (A : Around) (outer : List Env) (s : Shared) (H : Hp) (E : XK) (hr : Room 1 (A.deeper (PyProof.Rows.envOfC "_law_cell_at" (defScope s__law_cell_at) s.heap.objs.size f cdv))) : PSsx κ (cxn P w K mg base ["_law_script", "_law_k"] "_law_cell_at" (defScope s__law_cell_at) f cdv A outer s H E) (defBody s__law_cell_at) T__law_cell_at := by
  have kn := kn_cxn (P := P) (w := w) (K := K) (mg := mg) (base := base) (outer := outer) (H := H) (E := E) sc__law_cell_at hr
  exact SS_cons (S_if (T_cmp op_lt lt_rd (B_var 1) (PB.of (X_len rfl fx.len (AB_cons (B_var 0) (AB_nil))))) (SS_cons (S_ret (X_abs rfl fx.abs (AB_cons (PB.of (X_sub2 kn (B_var 0) (X_var 1))) (AB_nil)))) (SS_nil)) (SS_nil)) (SS_cons (S_ret (X_callK kn f__law_draw (by decide) (A_cons (X_plus (X_abs rfl fx.abs (AB_cons (PB.of (X_sum kn rfl fx.sum (AB_cons (B_var 0) (AB_nil)))) (AB_nil))) (X_mul (PB.of (X_int)) (B_var 1))) (A_cons (X_var 1) (A_cons (X_int) (A_nil)))))) (SS_nil))
abbrev s__law_digits : Stmt := top 31
theorem sc__law_digits : FnScope ["_law_script", "_law_at", "_law_many", "_law_base", "_law_cell", "_law_found", "_law_left", "_law_turn", "_law_blend", "_law_more"] ["_law_script", "_law_at", "_law_many", "_law_base"] (defScope s__law_digits) := ⟨rfl, rfl, rfl, by decide +kernel, rfl, by decide +kernel, by decide +kernel⟩
theorem d__law_digits (fx : Fx w K mg κ) (f__law_draw : FnK P w K mg base κ "_law_draw" ["_law_cell", "_law_k", "_law_many"] 1 F__law_draw) (f__law_cell_at : FnK P w K mg base κ "_law_cell_at" ["_law_script", "_law_k"] 2 F__law_cell_at) (cdv : Value) (A : Around) (outer : List Env) (s : Shared) (H : Hp) (E : XK) (hr : Room 2 (A.deeper (PyProof.Rows.envOfC "_law_digits" (defScope s__law_digits) s.heap.objs.size f cdv))) : PSsx κ (cxn P w K mg base ["_law_script", "_law_at", "_law_many", "_law_base", "_law_cell", "_law_found", "_law_left", "_law_turn", "_law_blend", "_law_more"] "_law_digits" (defScope s__law_digits) f cdv A outer s H E) (defBody s__law_digits) T__law_digits := by
  have kn := kn_cxn (P := P) (w := w) (K := K) (mg := mg) (base := base) (outer := outer) (H := H) (E := E) sc__law_digits hr
  exact SS_cons (S_par2 4 5 kn (AN_cons (N_sh (X_callK kn f__law_cell_at (by decide) (A_cons (X_var 0) (A_cons (X_var 1) (A_nil))))) (AN_cons (N_lst0) AN_nil))) (SS_cons (S_set 6 kn.nd (N_sh (X_sub (B_var 4) (PB.of (X_pow (PB.of (X_int)) (PB.of (X_int))))))) (SS_cons (S_for kn PassesOwn.never (I_range1 rfl fx.range (A_cons (X_var 2) (A_nil))) (GS_name 7 kn.nd) (SS_cons (S_if (T_cmp op_ge ge_rd (B_var 4) (PB.of (X_pow (PB.of (X_int)) (PB.of (X_int))))) (SS_cons (S_app 5 (X_mod (B_var 6) (B_var 3))) (SS_cons (S_set 6 kn.nd (N_sh (X_div (B_var 6) (B_var 3)))) (SS_nil))) (SS_cons (S_set 8 kn.nd (N_sh (X_callK kn f__law_draw (by decide) (A_cons (X_mul (PB.of (X_plus (X_var 4) (X_mul (PB.of (X_int)) (B_var 7)))) (PB.of (X_plus (X_plus (X_var 4) (X_mul (PB.of (X_int)) (B_var 7))) (X_int)))) (A_cons (X_plus (X_mod (B_var 7) (PB.of (X_int))) (X_int)) (A_cons (X_int) (A_nil))))))) (SS_cons (S_set 9 kn.nd (N_sh (X_callK kn f__law_draw (by decide) (A_cons (X_plus (X_mul (PB.of (X_plus (X_var 4) (X_mul (PB.of (X_int)) (B_var 7)))) (PB.of (X_plus (X_var 4) (X_int)))) (X_mul (PB.of (X_int)) (B_var 7))) (A_cons (X_plus (X_mod (B_var 7) (PB.of (X_int))) (X_int)) (A_cons (X_int) (A_nil))))))) (SS_cons (S_app 5 (X_mod (PB.of (X_plus (X_mul (B_var 8) (PB.of (X_int))) (X_var 9))) (B_var 3))) (SS_nil))))) (SS_nil))) (SS_dis 5 (SS_cons (S_ret (X_var 5)) (SS_nil)))))
abbrev s__law_web : Stmt := top 32
theorem sc__law_web : FnScope ["_law_script", "_law_at", "_law_most", "_law_draws", "_law_letters", "_law_names", "_law_kinds", "_law_spots", "_law_begins", "_law_ways", "_law_mask", "_law_name", "_law_letter", "_law_draw_here", "_law_some", "_law_spot", "_law_k", "_law_one"] ["_law_script", "_law_at", "_law_most"] (defScope s__law_web) := ⟨rfl, rfl, rfl, by decide +kernel, rfl, by decide +kernel, by decide +kernel⟩
theorem d__law_web (fx : Fx w K mg κ) (f__law_digits : FnK P w K mg base κ "_law_digits" ["_law_script", "_law_at", "_law_many", "_law_base"] 3 F__law_digits) (cdv : Value) (A : Around) (outer : List Env) (s : Shared) (H : Hp) (E : XK) (hr : Room 3 (A.deeper (PyProof.Rows.envOfC "_law_web" (defScope s__law_web) s.heap.objs.size f cdv))) : PSsx κ (cxn P w K mg base ["_law_script", "_law_at", "_law_most", "_law_draws", "_law_letters", "_law_names", "_law_kinds", "_law_spots", "_law_begins", "_law_ways", "_law_mask", "_law_name", "_law_letter", "_law_draw_here", "_law_some", "_law_spot", "_law_k", "_law_one"] "_law_web" (defScope s__law_web) f cdv A outer s H E) (defBody s__law_web) T__law_web := by
  have kn := kn_cxn (P := P) (w := w) (K := K) (mg := mg) (base := base) (outer := outer) (H := H) (E := E) sc__law_web hr
  exact SS_cons (S_set 3 kn.nd (N_sh (X_callK kn f__law_digits (by decide) (A_cons (X_var 0) (A_cons (X_var 1) (A_cons (X_int) (A_cons (X_int) (A_nil)))))))) (SS_cons (S_set 4 kn.nd (N_sh (X_sub2 kn (PB.of (X_tup (A_cons (X_lst (A_cons (X_str) (A_cons (X_str) (A_nil)))) (A_cons (X_lst (A_cons (X_str) (A_nil))) (A_cons (X_lst (A_cons (X_str) (A_cons (X_str) (A_cons (X_str) (A_nil))))) (A_cons (X_lst (A_cons (X_str) (A_cons (X_str) (A_nil)))) (A_nil))))))) (X_mod (PB.of (X_sub2 kn (B_var 3) (X_int))) (PB.of (X_int)))))) (SS_cons (S_set 5 kn.nd (N_sh (X_cut (PB.of (X_split (X_sub2 kn (PB.of (X_tup (A_cons (X_str) (A_cons (X_str) (A_nil))))) (X_mod (PB.of (X_sub2 kn (B_var 3) (X_int))) (PB.of (X_int)))) (X_str))) (O_none) (O_some (X_plus (X_int) (X_mod (PB.of (X_sub2 kn (B_var 3) (X_int))) (B_var 2))))))) (SS_cons (S_set 6 kn.nd (N_sh (X_cut (PB.of (X_lst (A_cons (X_str) (A_cons (X_str) (A_cons (X_str) (A_cons (X_str) (A_cons (X_str) (A_cons (X_str) (A_nil))))))))) (O_none) (O_some (X_plus (X_int) (X_mod (PB.of (X_sub2 kn (B_var 3) (X_int))) (PB.of (X_len rfl fx.len (AB_cons (B_var 5) (AB_nil)))))))))) (SS_cons (S_set 7 kn.nd (N_sh (X_dictP kn rfl fx.dict (AB_cons (PB.of (X_lc kn (I_enum rfl fx.enumerate (A_cons (X_var 5) (A_nil))) (blkOk_by (own := [("_law_spot", 15), ("_law_name", 11)]) (by kernel_rfl)) (fun s1 H1 C1 cl1 fp1 => G_tup kn.calm (Gs_cons (G_name 15 kn.nd) (Gs_cons (G_name 11 kn.nd) (Gs_nil))) (gsC_len (gsC_len gs0_len))) (fun s1 H1 C1 cl1 fp1 => Ts_nil) (fun s1 H1 C1 cl1 fp1 => X_tup (A_cons (X_var 11) (A_cons (X_sub2 (kn.blk s1 H1 _ _ fp1) (B_var 6) (X_mod (PB.of (X_sub2 (kn.blk s1 H1 _ _ fp1) (B_var 3) (X_plus (X_int) (X_var 15)))) (PB.of (X_len rfl fx.len (AB_cons (B_var 6) (AB_nil)))))) (A_nil)))))) (AB_nil))))) (SS_cons (S_setLc 8 kn (I_enum rfl fx.enumerate (A_cons (X_var 5) (A_nil))) (blkOk_by (own := [("_law_spot", 15), ("_law_name", 11)]) (by kernel_rfl)) (fun s1 H1 C1 cl1 fp1 => G_tup kn.calm (Gs_cons (G_name 15 kn.nd) (Gs_cons (G_name 11 kn.nd) (Gs_nil))) (gsC_len (gsC_len gs0_len))) (fun s1 H1 C1 cl1 fp1 => Ts_one (T_cmp (op_eqD kn.room.units) eq_rd (PB.of (X_band (PB.of (X_shr (PB.of (X_sub2 (kn.blk s1 H1 _ _ fp1) (B_var 3) (X_int))) (B_var 15))) (PB.of (X_int)))) (PB.of (X_int)))) (fun s1 H1 C1 cl1 fp1 => X_var 11)) (SS_cons (S_tup2 9 10 kn (AN_cons (N_dtt0) (AN_cons (N_sh (X_if (T_cmp (op_eqD kn.room.units) eq_rd (PB.of (X_mod (PB.of (X_sub2 kn (B_var 3) (X_int))) (PB.of (X_int)))) (PB.of (X_int))) (X_int) (X_int))) AN_nil))) (SS_cons (S_for kn PassesOwn.never (I_list (X_var 5)) (GS_name 11 kn.nd) (SS_cons (S_for kn PassesOwn.never (I_list (X_var 4)) (GS_name 12 kn.nd) (SS_cons (S_set 13 kn.nd (N_sh (X_sub2 kn (B_var 3) (X_plus (X_int) (X_len rfl fx.len (AB_cons (B_var 9) (AB_nil))))))) (SS_cons (S_setLc 14 kn (I_enum rfl fx.enumerate (A_cons (X_var 5) (A_nil))) (blkOk_by (own := [("_law_k", 16), ("_law_one", 17)]) (by kernel_rfl)) (fun s1 H1 C1 cl1 fp1 => G_tup kn.calm (Gs_cons (G_name 16 kn.nd) (Gs_cons (G_name 17 kn.nd) (Gs_nil))) (gsC_len (gsC_len gs0_len))) (fun s1 H1 C1 cl1 fp1 => Ts_one (T_cmp (op_eqD kn.room.units) eq_rd (PB.of (X_band (PB.of (X_shr (B_var 13) (B_var 16))) (B_var 10))) (PB.of (X_int)))) (fun s1 H1 C1 cl1 fp1 => X_var 17)) (SS_cons (S_dputT 9 kn (X_tup (A_cons (X_var 11) (A_cons (X_var 12) (A_nil)))) (X_if (T_cmp (op_neD kn.room.units) ne_rd (B_var 14) (PB.of (X_lst (A_nil)))) (X_var 14) (X_lst (A_cons (X_sub2 kn (B_var 5) (X_mod (B_var 13) (PB.of (X_len rfl fx.len (AB_cons (B_var 5) (AB_nil)))))) (A_nil))))) (SS_nil))))) (SS_nil))) (SS_dis 9 (SS_cons (S_ret (X_tup (A_cons (X_var 4) (A_cons (X_var 7) (A_cons (X_if (T_cmp (op_neD kn.room.units) ne_rd (B_var 8) (PB.of (X_lst (A_nil)))) (X_var 8) (X_lst (A_cons (X_sub2 kn (B_var 5) (X_mod (PB.of (X_sub2 kn (B_var 3) (X_int))) (PB.of (X_len rfl fx.len (AB_cons (B_var 5) (AB_nil)))))) (A_nil)))) (A_cons (X_var 9) (A_nil))))))) (SS_nil))))))))))
abbrev s__law_plan : Stmt := top 33
theorem sc__law_plan : FnScope ["_law_draws", "_law_letters", "_law_signs", "_law_many", "_law_begins", "_law_steps", "_law_at", "_law_goes", "_law_spot", "_law_sign"] ["_law_draws", "_law_letters", "_law_signs", "_law_many"] (defScope s__law_plan) := ⟨rfl, rfl, rfl, by decide +kernel, rfl, by decide +kernel, by decide +kernel⟩
theorem d__law_plan (fx : Fx w K mg κ)  (cdv : Value) (A : Around) (outer : List Env) (s : Shared) (H : Hp) (E : XK) (hr : Room 0 (A.deeper (PyProof.Rows.envOfC "_law_plan" (defScope s__law_plan) s.heap.objs.size f cdv))) : PSsx κ (cxn P w K mg base ["_law_draws", "_law_letters", "_law_signs", "_law_many", "_law_begins", "_law_steps", "_law_at", "_law_goes", "_law_spot", "_law_sign"] "_law_plan" (defScope s__law_plan) f cdv A outer s H E) (defBody s__law_plan) T__law_plan := by
  have kn := kn_cxn (P := P) (w := w) (K := K) (mg := mg) (base := base) (outer := outer) (H := H) (E := E) sc__law_plan hr
  exact SS_cons (S_set 4 kn.nd (N_sh (X_dictP kn rfl fx.dict (AB_cons (PB.of (X_lc kn (I_enum rfl fx.enumerate (A_cons (X_var 2) (A_nil))) (blkOk_by (own := [("_law_spot", 8), ("_law_sign", 9)]) (by kernel_rfl)) (fun s1 H1 C1 cl1 fp1 => G_tup kn.calm (Gs_cons (G_name 8 kn.nd) (Gs_cons (G_name 9 kn.nd) (Gs_nil))) (gsC_len (gsC_len gs0_len))) (fun s1 H1 C1 cl1 fp1 => Ts_nil) (fun s1 H1 C1 cl1 fp1 => X_tup (A_cons (X_var 9) (A_cons (X_mod (PB.of (X_sub2 (kn.blk s1 H1 _ _ fp1) (B_var 0) (X_var 8))) (B_var 3)) (A_nil)))))) (AB_nil))))) (SS_cons (S_set 5 kn.nd (N_lst0)) (SS_cons (S_for kn PassesOwn.never (I_range1 rfl fx.range (A_cons (X_var 3) (A_nil))) (GS_name 6 kn.nd) (SS_cons (S_set 7 kn.nd (N_sh (X_dictP kn rfl fx.dict (AB_cons (PB.of (X_lc kn (I_enum rfl fx.enumerate (A_cons (X_var 2) (A_nil))) (blkOk_by (own := [("_law_spot", 8), ("_law_sign", 9)]) (by kernel_rfl)) (fun s1 H1 C1 cl1 fp1 => G_tup kn.calm (Gs_cons (G_name 8 kn.nd) (Gs_cons (G_name 9 kn.nd) (Gs_nil))) (gsC_len (gsC_len gs0_len))) (fun s1 H1 C1 cl1 fp1 => Ts_nil) (fun s1 H1 C1 cl1 fp1 => X_tup (A_cons (X_var 9) (A_cons (X_mod (PB.of (X_div (PB.of (X_sub2 (kn.blk s1 H1 _ _ fp1) (B_var 0) (X_mod (PB.of (X_plus (X_plus (X_mul (B_var 6) (PB.of (X_int))) (X_var 8)) (X_int))) (PB.of (X_len rfl fx.len (AB_cons (B_var 0) (AB_nil))))))) (PB.of (X_int)))) (B_var 3)) (A_nil)))))) (AB_nil))))) (SS_cons (S_app 5 (X_tup (A_cons (X_sub2 kn (B_var 1) (X_mod (PB.of (X_sub2 kn (B_var 0) (X_mod (PB.of (X_plus (X_var 6) (X_int))) (PB.of (X_len rfl fx.len (AB_cons (B_var 0) (AB_nil))))))) (PB.of (X_len rfl fx.len (AB_cons (B_var 1) (AB_nil)))))) (A_cons (X_var 7) (A_nil))))) (SS_nil)))) (SS_dis 5 (SS_cons (S_ret (X_tup (A_cons (X_var 4) (A_cons (X_var 5) (A_nil))))) (SS_nil)))))
abbrev s__law_other : Stmt := top 34
theorem sc__law_other : FnScope ["_law_plan_here", "_law_draws", "_law_letters", "_law_begins", "_law_steps", "_law_many", "_law_kind", "_law_at", "_law_sign", "_law_move", "_law_goes", "_law_one", "_law_step"] ["_law_plan_here", "_law_draws", "_law_letters"] (defScope s__law_other) := ⟨rfl, rfl, rfl, by decide +kernel, rfl, by decide +kernel, by decide +kernel⟩
theorem d__law_other (fx : Fx w K mg κ)  (cdv : Value) (A : Around) (outer : List Env) (s : Shared) (H : Hp) (E : XK) (hr : Room 0 (A.deeper (PyProof.Rows.envOfC "_law_other" (defScope s__law_other) s.heap.objs.size f cdv))) : PSsx κ (cxn P w K mg base ["_law_plan_here", "_law_draws", "_law_letters", "_law_begins", "_law_steps", "_law_many", "_law_kind", "_law_at", "_law_sign", "_law_move", "_law_goes", "_law_one", "_law_step"] "_law_other" (defScope s__law_other) f cdv A outer s H E) (defBody s__law_other) T__law_other := by
  have kn := kn_cxn (P := P) (w := w) (K := K) (mg := mg) (base := base) (outer := outer) (H := H) (E := E) sc__law_other hr
  exact SS_cons (S_tup2 3 4 kn (AN_cons (N_dictD rfl fx.dict (PB.of (X_sub2 kn (B_var 0) (X_int)))) (AN_cons (N_fl (F_list kn rfl fx.list (PB.of (X_sub2 kn (B_var 0) (X_int))))) AN_nil))) (SS_cons (S_tup2 5 6 kn (AN_cons (N_sh (X_len rfl fx.len (AB_cons (B_var 4) (AB_nil)))) (AN_cons (N_sh (X_mod (PB.of (X_sub2 kn (B_var 1) (X_int))) (PB.of (X_int)))) AN_nil))) (SS_cons (S_tup2 7 8 kn (AN_cons (N_sh (X_mod (PB.of (X_sub2 kn (B_var 1) (X_int))) (B_var 5))) (AN_cons (N_sh (X_sub2 kn (PB.of (X_sortD kn (by rfl) fx.sorted (B_var 3))) (X_mod (PB.of (X_sub2 kn (B_var 1) (X_int))) (PB.of (X_len rfl fx.len (AB_cons (B_var 3) (AB_nil))))))) AN_nil))) (SS_cons (S_asg (X_sub2 kn (B_var 4) (X_var 7)) (GS_tup kn.calm (GSs_cons (GS_name 9 kn.nd) (GSs_cons (GS_name 10 kn.nd) (GSs_nil))) (gsC_len (gsC_len gs0_len)))) (SS_cons (S_if (T_cmp (op_eqD kn.room.units) eq_rd (B_var 6) (PB.of (X_int))) (SS_cons (S_lput 4 kn (X_var 7) (X_tup (A_cons (X_sub2 kn (B_var 2) (X_mod (PB.of (X_sub2 kn (B_var 1) (X_int))) (PB.of (X_len rfl fx.len (AB_cons (B_var 2) (AB_nil)))))) (A_cons (X_var 10) (A_nil))))) (SS_nil)) (SS_cons (S_if (T_cmp (op_eqD kn.room.units) eq_rd (B_var 6) (PB.of (X_int))) (SS_cons (S_lput 4 kn (X_var 7) (X_tup (A_cons (X_var 9) (A_cons (X_dictP kn rfl fx.dict (AB_cons (PB.of (X_lcKeys kn (K_var 10) (blkOk_by (own := [("_law_one", 11)]) (by kernel_rfl)) (fun s1 H1 C1 cl1 fp1 => G_name 11 kn.nd) (fun s1 H1 C1 cl1 fp1 => Ts_nil) (fun s1 H1 C1 cl1 fp1 => X_tup (A_cons (X_var 11) (A_cons (X_if (T_cmp (op_eqD kn.room.units) eq_rd (B_var 11) (B_var 8)) (X_mod (PB.of (X_sub2 (kn.blk s1 H1 _ _ fp1) (B_var 1) (X_int))) (B_var 5)) (X_sub2 (kn.blk s1 H1 _ _ fp1) (B_var 10) (X_var 11))) (A_nil)))))) (AB_nil))) (A_nil))))) (SS_nil)) (SS_cons (S_if (T_cmp (op_eqD kn.room.units) eq_rd (B_var 6) (PB.of (X_int))) (SS_cons (S_dputK 3 kn (X_var 8) (X_mod (PB.of (X_sub2 kn (B_var 1) (X_int))) (B_var 5))) (SS_nil)) (SS_cons (S_if (T_cmp (op_eqD kn.room.units) eq_rd (B_var 6) (PB.of (X_int))) (SS_dis 3 (SS_cons (S_set 3 kn.nd (N_sh (X_dictP kn rfl fx.dict (AB_cons (PB.of (X_lcKeys kn (K_var 3) (blkOk_by (own := [("_law_one", 11)]) (by kernel_rfl)) (fun s1 H1 C1 cl1 fp1 => G_name 11 kn.nd) (fun s1 H1 C1 cl1 fp1 => Ts_nil) (fun s1 H1 C1 cl1 fp1 => X_tup (A_cons (X_var 11) (A_cons (X_sub (PB.of (X_sub (B_var 5) (PB.of (X_int)))) (PB.of (X_sub2 (kn.blk s1 H1 _ _ fp1) (B_var 3) (X_var 11)))) (A_nil)))))) (AB_nil))))) (SS_cons (S_setLc 4 kn (I_list (X_rev (B_var 4))) (blkOk_by (own := [("_law_step", 12)]) (by kernel_rfl)) (fun s1 H1 C1 cl1 fp1 => G_name 12 kn.nd) (fun s1 H1 C1 cl1 fp1 => Ts_nil) (fun s1 H1 C1 cl1 fp1 => X_tup (A_cons (X_sub2 (kn.blk s1 H1 _ _ fp1) (B_var 12) (X_int)) (A_cons (X_dictP (kn.blk s1 H1 _ _ fp1) rfl fx.dict (AB_cons (PB.of (X_lcKeys (kn.blk s1 H1 _ _ fp1) (K_ixT (K_var 12)) (blkOk_by (own := [("_law_one", 11)]) (by kernel_rfl)) (fun s2 H2 C2 cl2 fp2 => G_name 11 kn.nd) (fun s2 H2 C2 cl2 fp2 => Ts_nil) (fun s2 H2 C2 cl2 fp2 => X_tup (A_cons (X_var 11) (A_cons (X_sub (PB.of (X_sub (B_var 5) (PB.of (X_int)))) (PB.of (X_sub2 ((kn.blk s1 H1 _ _ fp1).blk s2 H2 _ _ fp2) (PB.of (X_sub2 ((kn.blk s1 H1 _ _ fp1).blk s2 H2 _ _ fp2) (B_var 12) (X_int))) (X_var 11)))) (A_nil)))))) (AB_nil))) (A_nil))))) (SS_nil)))) (SS_cons (S_app 4 (X_sub2 kn (B_var 4) (X_var 7))) (SS_dis 3 (SS_cons (S_set 3 kn.nd (N_sh (X_dictP kn rfl fx.dict (AB_cons (PB.of (X_lcKeys kn (K_var 3) (blkOk_by (own := [("_law_one", 11)]) (by kernel_rfl)) (fun s1 H1 C1 cl1 fp1 => G_name 11 kn.nd) (fun s1 H1 C1 cl1 fp1 => Ts_nil) (fun s1 H1 C1 cl1 fp1 => X_tup (A_cons (X_var 11) (A_cons (X_if (T_w (W_and (T_cmp (op_eqD kn.room.units) eq_rd (PB.of (X_sub2 (kn.blk s1 H1 _ _ fp1) (B_var 3) (X_var 11))) (B_var 7)) (W_and1 (T_cmp (op_eqD kn.room.units) eq_rd (PB.of (X_mod (PB.of (X_sub2 (kn.blk s1 H1 _ _ fp1) (B_var 1) (X_int))) (PB.of (X_int)))) (PB.of (X_int)))))) (X_var 5) (X_sub2 (kn.blk s1 H1 _ _ fp1) (B_var 3) (X_var 11))) (A_nil)))))) (AB_nil))))) (SS_nil))))) (SS_nil))) (SS_nil))) (SS_nil))) (SS_dis 4 (SS_dis 3 (SS_cons (S_ret (X_tup (A_cons (X_var 3) (A_cons (X_var 4) (A_nil))))) (SS_nil))))))))
abbrev s__law_due5 : Stmt := top 35
theorem sc__law_due5 : FnScope ["_law_parts", "_law_one", "_law_other_here", "_law_letters", "_law_spots", "_law_begins", "_law_ways", "_law_signs", "_law_line", "_law_seen", "_law_row", "_law_some", "_law_mine", "_law_theirs", "_law_sign", "_law_here", "_law_first", "_law_second", "_law_move", "_law_there", "_law_place", "_law_at"] ["_law_parts", "_law_one", "_law_other_here"] (defScope s__law_due5) := ⟨rfl, rfl, rfl, by decide +kernel, rfl, by decide +kernel, by decide +kernel⟩
theorem d__law_due5 (fx : Fx w K mg κ)  (cdv : Value) (A : Around) (outer : List Env) (s : Shared) (H : Hp) (E : XK) (hr : Room 0 (A.deeper (PyProof.Rows.envOfC "_law_due" (defScope s__law_due5) s.heap.objs.size f cdv))) : PSsx κ (cxn P w K mg base ["_law_parts", "_law_one", "_law_other_here", "_law_letters", "_law_spots", "_law_begins", "_law_ways", "_law_signs", "_law_line", "_law_seen", "_law_row", "_law_some", "_law_mine", "_law_theirs", "_law_sign", "_law_here", "_law_first", "_law_second", "_law_move", "_law_there", "_law_place", "_law_at"] "_law_due" (defScope s__law_due5) f cdv A outer s H E) (defBody s__law_due5) T__law_due5 := by
  have kn := kn_cxn (P := P) (w := w) (K := K) (mg := mg) (base := base) (outer := outer) (H := H) (E := E) sc__law_due5 hr
  exact SS_cons (S_asg (X_var 0) (GS_tup kn.calm (GSs_cons (GS_name 3 kn.nd) (GSs_cons (GS_name 4 kn.nd) (GSs_cons (GS_name 5 kn.nd) (GSs_cons (GS_name 6 kn.nd) (GSs_nil))))) (gsC_len (gsC_len (gsC_len (gsC_len gs0_len)))))) (SS_cons (S_set 7 kn.nd (N_sh (X_sort fx.wd kn (by rfl) fx.sorted (SV_set fx.wd kn (by rfl) fx.set (PB.of (X_listV kn (by rfl) fx.list (B_var 4))))))) (SS_cons (S_par2 8 9 kn (AN_cons (N_fl (F_lst (A_cons (X_tup (A_cons (X_lst (A_nil)) (A_cons (X_lcKeys kn (K_var 4) (blkOk_by (own := [("_law_place", 20)]) (by kernel_rfl)) (fun s1 H1 C1 cl1 fp1 => G_name 20 kn.nd) (fun s1 H1 C1 cl1 fp1 => Ts_one (T_cmp (or_in (kn.blk s1 H1 _ _ fp1)) in_rd0 (B_var 20) (B_var 5))) (fun s1 H1 C1 cl1 fp1 => X_var 20)) (A_cons (X_non) (A_cons (X_non) (A_nil)))))) (A_nil)))) (AN_cons (N_lst0) AN_nil))) (SS_cons (S_while PassesOwn.never (T_cmp (op_neD kn.room.units) ne_rd (B_var 8) (PB.of (X_lst (A_nil)))) (SS_cons (S_parG 8 kn (G_tup kn.calm (Gs_cons (G_name 10 kn.nd) (Gs_cons (G_name 11 kn.nd) (Gs_cons (G_name 12 kn.nd) (Gs_cons (G_name 13 kn.nd) (Gs_nil))))) (gsC_len (gsC_len (gsC_len (gsC_len gs0_len))))) (AN_cons (N_sh (X_sub2 kn (B_var 8) (X_int))) (AN_cons (N_fl (F_cut (B_var 8) (O_some (X_int)) (O_none))) AN_nil))) (SS_cons (S_for kn PassesOwn.never (I_list (X_var 7)) (GS_name 14 kn.nd) (SS_cons (S_set 15 kn.nd (N_sh (X_lc kn (I_list (X_var 11)) (blkOk_by (own := [("_law_place", 20)]) (by kernel_rfl)) (fun s1 H1 C1 cl1 fp1 => G_name 20 kn.nd) (fun s1 H1 C1 cl1 fp1 => Ts_one (T_cmp (op_eqD kn.room.units) eq_rd (PB.of (X_sub2 (kn.blk s1 H1 _ _ fp1) (B_var 4) (X_var 20))) (B_var 14))) (fun s1 H1 C1 cl1 fp1 => X_var 20)))) (SS_cons (S_if (T_cmp (op_neD kn.room.units) ne_rd (B_var 15) (PB.of (X_lst (A_nil)))) (SS_cons (S_set 16 kn.nd (N_sh (X_if (T_isN (B_var 12)) (X_sub2 kn (PB.of (X_sub2 kn (B_var 1) (X_int))) (X_var 14)) (X_sub2 kn (PB.of (X_sub2 kn (PB.of (X_sub2 kn (PB.of (X_sub2 kn (B_var 1) (X_int))) (X_var 12))) (X_int))) (X_var 14))))) (SS_cons (S_set 17 kn.nd (N_sh (X_if (T_isN (B_var 13)) (X_sub2 kn (PB.of (X_sub2 kn (B_var 2) (X_int))) (X_var 14)) (X_sub2 kn (PB.of (X_sub2 kn (PB.of (X_sub2 kn (PB.of (X_sub2 kn (B_var 2) (X_int))) (X_var 13))) (X_int))) (X_var 14))))) (SS_cons (S_set 18 kn.nd (N_sh (X_sub2 kn (PB.of (X_sub2 kn (PB.of (X_sub2 kn (B_var 1) (X_int))) (X_var 16))) (X_int)))) (SS_cons (S_if (T_cmp (op_neD kn.room.units) ne_rd (B_var 18) (PB.of (X_sub2 kn (PB.of (X_sub2 kn (PB.of (X_sub2 kn (B_var 2) (X_int))) (X_var 17))) (X_int)))) (SS_cons (S_ret (X_plus (X_var 10) (X_lst (A_cons (X_var 14) (A_nil))))) (SS_nil)) (SS_nil)) (SS_cons (S_setLcKeys 19 kn (K_var 4) (blkOk_by (own := [("_law_place", 20)]) (by kernel_rfl)) (fun s1 H1 C1 cl1 fp1 => G_name 20 kn.nd) (fun s1 H1 C1 cl1 fp1 => Ts_one (T_val (X_any (kn.blk s1 H1 _ _ fp1) rfl fx.any (AB_cons (PB.of (X_lc (kn.blk s1 H1 _ _ fp1) (I_list (X_var 15)) (blkOk_by (own := [("_law_at", 21)]) (by kernel_rfl)) (fun s2 H2 C2 cl2 fp2 => G_name 21 kn.nd) (fun s2 H2 C2 cl2 fp2 => Ts_nil) (fun s2 H2 C2 cl2 fp2 => X_cmp (or_in ((kn.blk s1 H1 _ _ fp1).blk s2 H2 _ _ fp2)) in_rd0 (B_var 20) (PB.of (X_sub2 ((kn.blk s1 H1 _ _ fp1).blk s2 H2 _ _ fp2) (B_var 6) (X_tup (A_cons (X_var 21) (A_cons (X_var 18) (A_nil))))))))) (AB_nil))))) (fun s1 H1 C1 cl1 fp1 => X_var 20)) (SS_cons (S_if (T_cmp (or_notInL kn) notInL_rd (PB.of (X_tup (A_cons (X_var 19) (A_cons (X_var 16) (A_cons (X_var 17) (A_nil)))))) (B_var 9)) (SS_cons (S_app 9 (X_tup (A_cons (X_var 19) (A_cons (X_var 16) (A_cons (X_var 17) (A_nil)))))) (SS_cons (S_app 8 (X_tup (A_cons (X_plus (X_var 10) (X_lst (A_cons (X_var 14) (A_nil)))) (A_cons (X_var 19) (A_cons (X_var 16) (A_cons (X_var 17) (A_nil))))))) (SS_nil))) (SS_nil)) (SS_nil))))))) (SS_nil)) (SS_nil)))) (SS_nil)))) (SS_cons (S_ret (X_non)) (SS_nil)))))
abbrev s_law5 : Stmt := top 36
theorem sc_law5 : FnScope ["_law_script", "_law_by", "_law_parts", "_law_draws", "_law_signs", "_law_one", "_law_other_here", "_law_web_here", "_law_plans", "_law_due_here"] ["_law_script"] (defScope s_law5) := ⟨rfl, rfl, rfl, by decide +kernel, rfl, by decide +kernel, by decide +kernel⟩
theorem d_law5 (fx : Fx w K mg κ) (f_apart : FnK P w K mg base κ "apart" ["web", "one", "other"] 4 F_apart) (f__law_due : FnK P w K mg base κ "_law_due" ["_law_parts", "_law_one", "_law_other_here"] 1 F__law_due5) (i_Plan : MkK P w K mg base κ 1 "Plan" ["self", "begins", "steps"] 4 I_Plan) (i_Web : MkK P w K mg base κ 0 "Web" ["self", "letters", "places", "begins", "ways"] 3 I_Web) (f__law_plan : FnK P w K mg base κ "_law_plan" ["_law_draws", "_law_letters", "_law_signs", "_law_many"] 1 F__law_plan) (f__law_other : FnK P w K mg base κ "_law_other" ["_law_plan_here", "_law_draws", "_law_letters"] 1 F__law_other) (f__law_web : FnK P w K mg base κ "_law_web" ["_law_script", "_law_at", "_law_most"] 4 F__law_web) (f__law_digits : FnK P w K mg base κ "_law_digits" ["_law_script", "_law_at", "_law_many", "_law_base"] 3 F__law_digits) (cdv : Value) (A : Around) (outer : List Env) (s : Shared) (H : Hp) (E : XK) (hr : Room 5 (A.deeper (PyProof.Rows.envOfC "law" (defScope s_law5) s.heap.objs.size f cdv))) : PSs (cxn P w K mg base ["_law_script", "_law_by", "_law_parts", "_law_draws", "_law_signs", "_law_one", "_law_other_here", "_law_web_here", "_law_plans", "_law_due_here"] "law" (defScope s_law5) f cdv A outer s H E) (defBody s_law5) (tSeq (tAsg (tSl (rSlL K) (tVar 0) tNoPart (tPart (tC (.int 63)))) (gName 0)) (tPS K κ T_law5)) := by
  have kn := kn_cxn (P := P) (w := w) (K := K) (mg := mg) (base := base) (outer := outer) (H := H) (E := E) sc_law5 hr
  exact pss_cons (ps_set (i := 0) sc_law5.nd rfl (Or.inl rfl) (pe_slice sl_list (pv 0) po_none (po_some pe_int))) (SS_cons (S_for kn PassesOwn.never (I_range1 rfl fx.range (A_cons (X_max2 kn rfl fx.max (AB_cons (PB.of (X_int)) (AB_cons (PB.of (X_min2 kn rfl fx.min (AB_cons (PB.of (X_int)) (AB_cons (PB.of (X_len rfl fx.len (AB_cons (B_var 0) (AB_nil)))) (AB_nil))))) (AB_nil)))) (A_nil))) (GS_name 1 kn.nd) (SS_cons (S_par2 2 3 kn (AN_cons (N_sh (X_callK kn f__law_web (by decide) (A_cons (X_var 0) (A_cons (X_var 1) (A_cons (X_int) (A_nil)))))) (AN_cons (N_sh (X_callK kn f__law_digits (by decide) (A_cons (X_var 0) (A_cons (X_plus (X_var 1) (X_int)) (A_cons (X_int) (A_cons (X_int) (A_nil))))))) AN_nil))) (SS_cons (S_set 4 kn.nd (N_sh (X_sort fx.wd kn (by rfl) fx.sorted (SV_set fx.wd kn (by rfl) fx.set (PB.of (X_listV kn (by rfl) fx.list (PB.of (X_sub2 kn (B_var 2) (X_int))))))))) (SS_cons (S_set 5 kn.nd (N_sh (X_callK kn f__law_plan (by decide) (A_cons (X_var 3) (A_cons (X_sub2 kn (B_var 2) (X_int)) (A_cons (X_var 4) (A_cons (X_plus (X_int) (X_mod (PB.of (X_sub2 kn (B_var 3) (X_int))) (PB.of (X_int)))) (A_nil)))))))) (SS_cons (S_set 6 kn.nd (N_sh (X_callK kn f__law_other (by decide) (A_cons (X_var 5) (A_cons (X_cut (B_var 3) (O_some (X_int)) (O_none)) (A_cons (X_sub2 kn (B_var 2) (X_int)) (A_nil))))))) (SS_cons (S_if (T_cmp (op_eqD kn.room.units) eq_rd (PB.of (X_mod (PB.of (X_sub2 kn (B_var 3) (X_int))) (PB.of (X_int)))) (PB.of (X_int))) (SS_cons (S_set 6 kn.nd (N_sh (X_callK kn f__law_plan (by decide) (A_cons (X_cut (B_var 3) (O_some (X_int)) (O_none)) (A_cons (X_sub2 kn (B_var 2) (X_int)) (A_cons (X_var 4) (A_cons (X_plus (X_int) (X_mod (PB.of (X_sub2 kn (B_var 3) (X_int))) (PB.of (X_int)))) (A_nil)))))))) (SS_nil)) (SS_nil)) (SS_cons (S_set 7 kn.nd (N_sh (X_makeK kn i_Web (by decide) (A_cons (X_sub2 kn (B_var 2) (X_int)) (A_cons (X_sub2 kn (B_var 2) (X_int)) (A_cons (X_sub2 kn (B_var 2) (X_int)) (A_cons (X_sub2 kn (B_var 2) (X_int)) (A_nil)))))))) (SS_cons (S_set 8 kn.nd (N_sh (X_lst (A_cons (X_makeK kn i_Plan (by decide) (A_cons (X_sub2 kn (B_var 5) (X_int)) (A_cons (X_sub2 kn (B_var 5) (X_int)) (A_nil)))) (A_cons (X_makeK kn i_Plan (by decide) (A_cons (X_sub2 kn (B_var 6) (X_int)) (A_cons (X_sub2 kn (B_var 6) (X_int)) (A_nil)))) (A_nil)))))) (SS_cons (S_set 9 kn.nd (N_sh (X_callK kn f__law_due (by decide) (A_cons (X_var 2) (A_cons (X_var 5) (A_cons (X_var 6) (A_nil))))))) (SS_cons (S_if (T_w (W_or (T_cmp (op_neD kn.room.units) ne_rd (PB.of (X_callK kn f_apart (by decide) (A_cons (X_var 7) (A_cons (X_sub2 kn (B_var 8) (X_int)) (A_cons (X_sub2 kn (B_var 8) (X_int)) (A_nil)))))) (B_var 9)) (W_or1 (T_cmp (op_neD kn.room.units) ne_rd (PB.of (X_callK kn f_apart (by decide) (A_cons (X_var 7) (A_cons (X_sub2 kn (B_var 8) (X_int)) (A_cons (X_sub2 kn (B_var 8) (X_int)) (A_nil)))))) (B_var 9))))) (SS_cons (S_ret (X_bl)) (SS_nil)) (SS_nil)) (SS_cons (S_if (T_notN (PB.of (X_callK kn f_apart (by decide) (A_cons (X_var 7) (A_cons (X_sub2 kn (B_var 8) (X_int)) (A_cons (X_sub2 kn (B_var 8) (X_int)) (A_nil))))))) (SS_cons (S_ret (X_bl)) (SS_nil)) (SS_nil)) (SS_nil)))))))))))) (SS_cons (S_ret (X_bl)) (SS_nil)))
end
end BP
namespace BP
open PySem L2
def spLaw (K : PySem.W.Frag) : Sp := fun vs H Q _ => ∃ (a : Addr) (ns : List Int), vs = [.ref a] ∧ SqL K H a (ns.map V.int) ∧ ns.length ≤ 63 ∧ ∀ H', Q (.bl true) H'
theorem reps_ints {κ : Kap} {H : Hp} : ∀ l : List Int, Reps κ H (l.map .int) (l.map V.int)
  | [] => rfl
  | i :: r => ⟨.int i, _, rfl, rfl, reps_ints r⟩
theorem cut_ints (ns : List Int) (lo hi : Option Int) : ∃ l : List Int, cutV (ns.map V.int) lo hi = l.map V.int ∧ l.length ≤ ns.length := by
  have h := cutV_length (ns.map V.int) lo hi
  refine ⟨(ns.drop (HT.sIx (ns.map V.int).length 0 lo)).take (HT.sIx (ns.map V.int).length (ns.map V.int).length hi - HT.sIx (ns.map V.int).length 0 lo), ?_, ?_⟩
  · unfold cutV
    rw [List.map_take, List.map_drop]
  · rw [List.length_take, List.length_drop]
    omega
theorem pure_law {K : PySem.W.Frag} {κ : Kap} (vs : List V) (H : Hp) (Q : VK) (E : XK) (h : spLaw K vs H Q E) : tSeq (tAsg (tSl (rSlL K) (tVar 0) tNoPart (tPart (tC (.int 63)))) (gName 0)) (tPS K κ T_law5) { nx := fun _ H' => Q .non H', rt := Q } (L2.start ["_law_script", "_law_by", "_law_parts", "_law_draws", "_law_signs", "_law_one", "_law_other_here", "_law_web_here", "_law_plans", "_law_due_here"] vs) H := by
  obtain ⟨a, ns, rfl, hS, hl, hQ⟩ := h
  obtain ⟨l, el, ll⟩ := cut_ints ns none (some 63)
  refine ⟨.ref a, rfl, 63, rfl, a, ns.map V.int, rfl, hS, fun p hp => ?_⟩
  rw [el]
  have hz : hide (fun _ => False) (upd H p (.lst (l.map V.int))) = upd H p (.lst (l.map V.int)) := by
    funext b
    unfold hide
    rw [if_neg (fun h => h)]
  have sh : ∀ (i : Nat) (sl : Sl), ([some (.sh (eI l)), none, none, none, none, none, none, none, none, none] : En)[i]? = some (some sl) → i = 0 ∧ sl = .sh (eI l) := fun i sl e => by
    match i, e with
    | 0, e => exact ⟨rfl, by simpa using e.symm⟩
    | i + 1, e =>
      exfalso
      simp only [List.getElem?_cons_succ] at e
      have := List.mem_of_getElem? e
      simp at this
  refine ⟨upd H p (.lst (l.map V.int)), fun _ => False, fun _ => False, k4 (.bl true), [some (.sh (eI l)), none, none, none, none, none, none, none, none, none], ⟨fun a h => h.elim, ⟨rfl, fun i sl e => ?_⟩, .refl _, fun _ h => h, fun _ h => .inl h, fun i j a si sj h1 h2 o1 o2 _ _ => ?_, fun i a si h1 o1 _ => ?_⟩, ex_law l (by omega), ⟨fun Z' σ δ H' S' hn => ?_, fun _ _ _ _ _ h => h.elim, fun _ _ _ _ _ h => h.elim, fun Z' d' v H' z' e f n r' hd' => ?_⟩⟩
  · obtain ⟨rfl, rfl⟩ := sh i sl e
    exact ⟨.ref p, rfl, p, _, rfl, by rw [hz]; exact upd_same, reps_ints l⟩
  · obtain ⟨rfl, rfl⟩ := sh i si h1
    cases o1
  · obtain ⟨rfl, rfl⟩ := sh i si h1
    cases o1
  · have hn : D.bl true = .non := hn
    cases hn
  · have hd' : d' = .bl true := hd'
    subst hd'
    have : v = .bl true := r'
    subst this
    exact hQ H'
def D_is_name : He.DefD := ⟨("is_name", none), "is_name", "is_name", defArgs s_is_name, defBody s_is_name, defScope s_is_name, [], []⟩
def D_are_some : He.DefD := ⟨("are_some", none), "are_some", "are_some", defArgs s_are_some, defBody s_are_some, defScope s_are_some, [], []⟩
def D_are_letters : He.DefD := ⟨("are_letters", none), "are_letters", "are_letters", defArgs s_are_letters, defBody s_are_letters, defScope s_are_letters, [], []⟩
def D_are_places : He.DefD := ⟨("are_places", none), "are_places", "are_places", defArgs s_are_places, defBody s_are_places, defScope s_are_places, [], []⟩
def D_are_ways : He.DefD := ⟨("are_ways", none), "are_ways", "are_ways", defArgs s_are_ways, defBody s_are_ways, defScope s_are_ways, [], []⟩
def D_in_turn : He.DefD := ⟨("Web", some "in_turn"), "in_turn", "Web.in_turn", defArgs s_in_turn, defBody s_in_turn, defScope s_in_turn, [], []⟩
def D_init : He.DefD := ⟨("Web", some "__init__"), "__init__", "Web.__init__", defArgs s_init, defBody s_init, defScope s_init, [], []⟩
def D_signs : He.DefD := ⟨("Web", some "signs"), "signs", "Web.signs", defArgs s_signs, defBody s_signs, defScope s_signs, [], []⟩
def D_reached : He.DefD := ⟨("Web", some "reached"), "reached", "Web.reached", defArgs s_reached, defBody s_reached, defScope s_reached, [], []⟩
def D_at_sign : He.DefD := ⟨("Web", some "at_sign"), "at_sign", "Web.at_sign", defArgs s_at_sign, defBody s_at_sign, defScope s_at_sign, [], []⟩
def D_is_number : He.DefD := ⟨("is_number", none), "is_number", "is_number", defArgs s_is_number, defBody s_is_number, defScope s_is_number, [], []⟩
def D_are_goes : He.DefD := ⟨("are_goes", none), "are_goes", "are_goes", defArgs s_are_goes, defBody s_are_goes, defScope s_are_goes, [], []⟩
def D_check_plan : He.DefD := ⟨("check_plan", none), "check_plan", "check_plan", defArgs s_check_plan, defBody s_check_plan, defScope s_check_plan, [], []⟩
def D_initP : He.DefD := ⟨("Plan", some "__init__"), "__init__", "Plan.__init__", defArgs s_initP, defBody s_initP, defScope s_initP, [], []⟩
def D_fits : He.DefD := ⟨("Plan", some "fits"), "fits", "Plan.fits", defArgs s_fits, defBody s_fits, defScope s_fits, [], []⟩
def D_check_fits : He.DefD := ⟨("check_fits", none), "check_fits", "check_fits", defArgs s_check_fits, defBody s_check_fits, defScope s_check_fits, [], []⟩
def D_apart : He.DefD := ⟨("apart", none), "apart", "apart", defArgs s_apart, defBody s_apart, defScope s_apart, [], []⟩
def D__law_draw : He.DefD := ⟨("_law_draw", none), "_law_draw", "_law_draw", defArgs s__law_draw, defBody s__law_draw, defScope s__law_draw, [], []⟩
def D__law_cell_at : He.DefD := ⟨("_law_cell_at", none), "_law_cell_at", "_law_cell_at", defArgs s__law_cell_at, defBody s__law_cell_at, defScope s__law_cell_at, [], []⟩
def D__law_digits : He.DefD := ⟨("_law_digits", none), "_law_digits", "_law_digits", defArgs s__law_digits, defBody s__law_digits, defScope s__law_digits, [], []⟩
def D__law_web : He.DefD := ⟨("_law_web", none), "_law_web", "_law_web", defArgs s__law_web, defBody s__law_web, defScope s__law_web, [], []⟩
def D__law_plan : He.DefD := ⟨("_law_plan", none), "_law_plan", "_law_plan", defArgs s__law_plan, defBody s__law_plan, defScope s__law_plan, [], []⟩
def D__law_other : He.DefD := ⟨("_law_other", none), "_law_other", "_law_other", defArgs s__law_other, defBody s__law_other, defScope s__law_other, [], []⟩
def D__law_due5 : He.DefD := ⟨("_law_due", none), "_law_due", "_law_due", defArgs s__law_due5, defBody s__law_due5, defScope s__law_due5, [], []⟩
def D_law5 : He.DefD := ⟨("law", none), "law", "law", defArgs s_law5, defBody s_law5, defScope s_law5, [], []⟩
def fnL : List He.DefD := [D_is_name, D_are_some, D_are_letters, D_are_places, D_are_ways, D_in_turn, D_init, D_signs, D_reached, D_at_sign, D_is_number, D_are_goes, D_check_plan, D_initP, D_fits, D_check_fits, D_apart, D__law_draw, D__law_cell_at, D__law_digits, D__law_web, D__law_plan, D__law_other, D__law_due5, D_law5]
def faL : List He.Fa := [.str "SIGNS" "abcdefghijklmnopqrstuvwxyz", .free "all", .free "isinstance", .free "str", .free "len", .int "LONGEST" 8, .free "list", .free "tuple", .int "MOST_LETTERS" 3, .free "dict", .int "MOST_PLACES" 6, .cls "Web", .noat "Web" "known", .noat "Web" "leads", .noat "Web" "first", .noat "Web" "moves", .free "sorted", .free "int", .free "bool", .int "MOST_STEPS" 1000, .cls "Plan", .noat "Plan" "line", .noat "Plan" "opens", .glo "Plan", .free "sum", .free "abs", .free "range", .free "enumerate", .free "any", .free "set", .free "min", .free "max", .glo "is_name", .glo "are_some", .glo "are_letters", .glo "are_places", .glo "are_ways", .meth "Web" "in_turn", .mkr "Web", .glo "Web", .meth "Web" "signs", .meth "Web" "reached", .meth "Web" "at_sign", .glo "is_number", .glo "are_goes", .glo "check_plan", .mkr "Plan", .meth "Plan" "fits", .glo "check_fits", .glo "apart", .glo "_law_draw", .glo "_law_cell_at", .glo "_law_digits", .glo "_law_web", .glo "_law_plan", .glo "_law_other", .glo "_law_due", .glo "law"]
def exL (K : PySem.W.Frag) : Bool := He.eqO (PySem.W.findIn K (.ref (He.ga K "Plan")) "__class__") (some (some (.builtin "object.__class__"))) && (He.eqO (PySem.W.specialIn K (.builtin "object.__class__") "__get__") (some (some (.builtin "getset_descriptor.__get__"))) && (decide (PySem.W.takesIn K (.builtin "object.__class__") = some true) && decide (PySem.W.mroIn K (He.ga K "Plan") (.type "object") = some true)))
theorem isc_of {K : PySem.W.Frag} (h : exL K = true) : IsC K (He.ga K "Plan") := by
  unfold exL at h
  rw [Bool.and_eq_true, Bool.and_eq_true, Bool.and_eq_true] at h
  exact ⟨He.eqO_ok h.1, He.eqO_ok h.2.1, of_decide_eq_true h.2.2.1, of_decide_eq_true h.2.2.2⟩
theorem facts {P : Program} {w : World} {K : PySem.W.Frag} {h : Heap} {mg : Str → Option Value} {f : Addr} (X : K.In h) (G : h.Ns mainGlobals mg) (hfa : mg ("law" : Str) = some (.ref f)) (c : He.SaysX faL fnL [] [] exL w h K) : ∃ fd : FuncData, (∀ (s : Shared) (v : Value), BindsTo s fd ⟨[v], []⟩ [("_law_script", v)]) ∧ ∀ base : Heap, K.In base → base.Ns mainGlobals mg → FnOk P w K mg base CX0 6 f fd ["_law_script"] (spLaw K) := by
  have cd := c.t.d
  have fx : Fx w K mg (⟨fun i => match i with | 0 => He.ga K "Web" | _ => He.ga K "Plan", w⟩) := {
    g_SIGNS := He.str_ok X G (cd.fact 0 (f := .str "SIGNS" "abcdefghijklmnopqrstuvwxyz") rfl)
    all := He.free_ok X G (cd.fact 1 (f := .free "all") rfl)
    isinstance := He.free_ok X G (cd.fact 2 (f := .free "isinstance") rfl)
    str := He.free_ok X G (cd.fact 3 (f := .free "str") rfl)
    len := He.free_ok X G (cd.fact 4 (f := .free "len") rfl)
    g_LONGEST := He.int_ok X G (cd.fact 5 (f := .int "LONGEST" 8) rfl)
    list := He.free_ok X G (cd.fact 6 (f := .free "list") rfl)
    tuple := He.free_ok X G (cd.fact 7 (f := .free "tuple") rfl)
    g_MOST_LETTERS := He.int_ok X G (cd.fact 8 (f := .int "MOST_LETTERS" 3) rfl)
    dict := He.free_ok X G (cd.fact 9 (f := .free "dict") rfl)
    g_MOST_PLACES := He.int_ok X G (cd.fact 10 (f := .int "MOST_PLACES" 6) rfl)
    cls := He.cls_ok (cd.fact 11 (f := .cls "Web") rfl)
    na_known := He.noat_ok (cd.fact 12 (f := .noat "Web" "known") rfl)
    na_leads := He.noat_ok (cd.fact 13 (f := .noat "Web" "leads") rfl)
    na_first := He.noat_ok (cd.fact 14 (f := .noat "Web" "first") rfl)
    na_moves := He.noat_ok (cd.fact 15 (f := .noat "Web" "moves") rfl)
    wd := rfl
    sorted := He.free_ok X G (cd.fact 16 (f := .free "sorted") rfl)
    int := He.free_ok X G (cd.fact 17 (f := .free "int") rfl)
    bool := He.free_ok X G (cd.fact 18 (f := .free "bool") rfl)
    g_MOST_STEPS := He.int_ok X G (cd.fact 19 (f := .int "MOST_STEPS" 1000) rfl)
    cls1 := He.cls_ok (cd.fact 20 (f := .cls "Plan") rfl)
    na1_line := He.noat_ok (cd.fact 21 (f := .noat "Plan" "line") rfl)
    na1_opens := He.noat_ok (cd.fact 22 (f := .noat "Plan" "opens") rfl)
    isc1 := isc_of c.more
    gc_Plan := He.glo_ok X G (cd.fact 23 (f := .glo "Plan") rfl)
    sum := He.free_ok X G (cd.fact 24 (f := .free "sum") rfl)
    abs := He.free_ok X G (cd.fact 25 (f := .free "abs") rfl)
    range := He.free_ok X G (cd.fact 26 (f := .free "range") rfl)
    enumerate := He.free_ok X G (cd.fact 27 (f := .free "enumerate") rfl)
    any := He.free_ok X G (cd.fact 28 (f := .free "any") rfl)
    set := He.free_ok X G (cd.fact 29 (f := .free "set") rfl)
    min := He.free_ok X G (cd.fact 30 (f := .free "min") rfl)
    max := He.free_ok X G (cd.fact 31 (f := .free "max") rfl)
  }
  obtain ⟨fd_0, F_0⟩ := cd.def_ 0 (d := D_is_name) rfl
  obtain ⟨fd_1, F_1⟩ := cd.def_ 1 (d := D_are_some) rfl
  obtain ⟨fd_2, F_2⟩ := cd.def_ 2 (d := D_are_letters) rfl
  obtain ⟨fd_3, F_3⟩ := cd.def_ 3 (d := D_are_places) rfl
  obtain ⟨fd_4, F_4⟩ := cd.def_ 4 (d := D_are_ways) rfl
  obtain ⟨fd_5, F_5⟩ := cd.def_ 5 (d := D_in_turn) rfl
  obtain ⟨fd_6, F_6⟩ := cd.def_ 6 (d := D_init) rfl
  obtain ⟨fd_7, F_7⟩ := cd.def_ 7 (d := D_signs) rfl
  obtain ⟨fd_8, F_8⟩ := cd.def_ 8 (d := D_reached) rfl
  obtain ⟨fd_9, F_9⟩ := cd.def_ 9 (d := D_at_sign) rfl
  obtain ⟨fd_10, F_10⟩ := cd.def_ 10 (d := D_is_number) rfl
  obtain ⟨fd_11, F_11⟩ := cd.def_ 11 (d := D_are_goes) rfl
  obtain ⟨fd_12, F_12⟩ := cd.def_ 12 (d := D_check_plan) rfl
  obtain ⟨fd_13, F_13⟩ := cd.def_ 13 (d := D_initP) rfl
  obtain ⟨fd_14, F_14⟩ := cd.def_ 14 (d := D_fits) rfl
  obtain ⟨fd_15, F_15⟩ := cd.def_ 15 (d := D_check_fits) rfl
  obtain ⟨fd_16, F_16⟩ := cd.def_ 16 (d := D_apart) rfl
  obtain ⟨fd_17, F_17⟩ := cd.def_ 17 (d := D__law_draw) rfl
  obtain ⟨fd_18, F_18⟩ := cd.def_ 18 (d := D__law_cell_at) rfl
  obtain ⟨fd_19, F_19⟩ := cd.def_ 19 (d := D__law_digits) rfl
  obtain ⟨fd_20, F_20⟩ := cd.def_ 20 (d := D__law_web) rfl
  obtain ⟨fd_21, F_21⟩ := cd.def_ 21 (d := D__law_plan) rfl
  obtain ⟨fd_22, F_22⟩ := cd.def_ 22 (d := D__law_other) rfl
  obtain ⟨fd_23, F_23⟩ := cd.def_ 23 (d := D__law_due5) rfl
  obtain ⟨fd_24, F_24⟩ := cd.def_ 24 (d := D_law5) rfl
  have e := hfa.symm.trans (He.glo_ok X G (cd.fact 57 (f := .glo "law") rfl))
  cases e
  have b := FunD.bindsA (ps := ["_law_script"]) F_24 fun _ _ _ _ _ _ us hl => match us, hl with | [_], _ => rfl
  refine ⟨fd_24, fun s v => b s [v] rfl, fun base _ _ => ?_⟩
  have f_is_name : FnK P w K mg base (⟨fun i => match i with | 0 => He.ga K "Web" | _ => He.ga K "Plan", w⟩) "is_name" ["thing"] 1 F_is_name := .of (fn_ok (T := T_is_name) F_0 sc_is_name (fun ds d h => (FT_some h).1) (fun cdv A outer s H E hr => d_is_name fx  cdv A outer s H E hr)) (He.glo_ok X G (cd.fact 32 (f := .glo "is_name") rfl)) F_0.kp (F_0.bindsN fun _ _ _ _ _ _ us hl => match us, hl with | [_], _ => rfl)
  have f_are_some : FnK P w K mg base (⟨fun i => match i with | 0 => He.ga K "Web" | _ => He.ga K "Plan", w⟩) "are_some" ["thing", "names", "least"] 1 F_are_some := .of (fn_ok (T := T_are_some) F_1 sc_are_some (fun ds d h => (FT_some h).1) (fun cdv A outer s H E hr => d_are_some fx  cdv A outer s H E hr)) (He.glo_ok X G (cd.fact 33 (f := .glo "are_some") rfl)) F_1.kp (F_1.bindsN fun _ _ _ _ _ _ us hl => match us, hl with | [_, _, _], _ => rfl)
  have f_are_letters : FnK P w K mg base (⟨fun i => match i with | 0 => He.ga K "Web" | _ => He.ga K "Plan", w⟩) "are_letters" ["thing"] 2 F_are_letters := .of (fn_ok (T := T_are_letters) F_2 sc_are_letters (fun ds d h => (FT_some h).1) (fun cdv A outer s H E hr => d_are_letters fx f_is_name cdv A outer s H E hr)) (He.glo_ok X G (cd.fact 34 (f := .glo "are_letters") rfl)) F_2.kp (F_2.bindsN fun _ _ _ _ _ _ us hl => match us, hl with | [_], _ => rfl)
  have f_are_places : FnK P w K mg base (⟨fun i => match i with | 0 => He.ga K "Web" | _ => He.ga K "Plan", w⟩) "are_places" ["thing"] 2 F_are_places := .of (fn_ok (T := T_are_places) F_3 sc_are_places (fun ds d h => (FT_some h).1) (fun cdv A outer s H E hr => d_are_places fx f_is_name cdv A outer s H E hr)) (He.glo_ok X G (cd.fact 35 (f := .glo "are_places") rfl)) F_3.kp (F_3.bindsN fun _ _ _ _ _ _ us hl => match us, hl with | [_], _ => rfl)
  have f_are_ways : FnK P w K mg base (⟨fun i => match i with | 0 => He.ga K "Web" | _ => He.ga K "Plan", w⟩) "are_ways" ["thing", "letters", "places"] 2 F_are_ways := .of (fn_ok (T := T_are_ways) F_4 sc_are_ways (fun ds d h => (FT_some h).1) (fun cdv A outer s H E hr => d_are_ways fx f_are_some cdv A outer s H E hr)) (He.glo_ok X G (cd.fact 36 (f := .glo "are_ways") rfl)) F_4.kp (F_4.bindsN fun _ _ _ _ _ _ us hl => match us, hl with | [_, _, _], _ => rfl)
  have e_in_turn : MeK P w K mg base (⟨fun i => match i with | 0 => He.ga K "Web" | _ => He.ga K "Plan", w⟩) 0 "in_turn" ["self", "some"] 1 F_in_turn := ⟨_, fd_5, fn_ok (T := T_in_turn) F_5 sc_in_turn (fun ds d h => (FT_some h).1) (fun cdv A outer s H E hr => d_in_turn fx  cdv A outer s H E hr), He.meth_ok (cd.fact 37 (f := .meth "Web" "in_turn") rfl), (F_5.bindsN fun _ _ _ _ _ _ us hl => match us, hl with | [_, _], _ => rfl)⟩
  have i_Web : MkK P w K mg base (⟨fun i => match i with | 0 => He.ga K "Web" | _ => He.ga K "Plan", w⟩) 0 "Web" ["self", "letters", "places", "begins", "ways"] 3 I_Web := ⟨_, fd_6, init_ok (T := T_init) F_6 sc_init (fun ds d h => (IT_some h).1) (by decide) (fun cdv A outer s H E hr => d_init fx e_in_turn f_are_ways f_are_some f_are_places f_are_letters cdv A outer s H E hr), He.mkr_ok (cd.fact 38 (f := .mkr "Web") rfl), He.glo_ok X G (cd.fact 39 (f := .glo "Web") rfl), (F_6.bindsN fun _ _ _ _ _ _ us hl => match us, hl with | [_, _, _, _, _], _ => rfl)⟩
  have e_signs : MeK P w K mg base (⟨fun i => match i with | 0 => He.ga K "Web" | _ => He.ga K "Plan", w⟩) 0 "signs" ["self"] 1 F_signs := ⟨_, fd_7, fn_ok (T := T_signs) F_7 sc_signs (fun ds d h => FU_some h) (fun cdv A outer s H E hr => d_signs fx  cdv A outer s H E hr), He.meth_ok (cd.fact 40 (f := .meth "Web" "signs") rfl), (F_7.bindsN fun _ _ _ _ _ _ us hl => match us, hl with | [_], _ => rfl)⟩
  have e_reached : MeK P w K mg base (⟨fun i => match i with | 0 => He.ga K "Web" | _ => He.ga K "Plan", w⟩) 0 "reached" ["self", "some", "letter"] 2 F_reached := ⟨_, fd_8, fn_ok (T := T_reached) F_8 sc_reached (fun ds d h => FU_some h) (fun cdv A outer s H E hr => d_reached fx e_in_turn cdv A outer s H E hr), He.meth_ok (cd.fact 41 (f := .meth "Web" "reached") rfl), (F_8.bindsN fun _ _ _ _ _ _ us hl => match us, hl with | [_, _, _], _ => rfl)⟩
  have e_at_sign : MeK P w K mg base (⟨fun i => match i with | 0 => He.ga K "Web" | _ => He.ga K "Plan", w⟩) 0 "at_sign" ["self", "some", "sign"] 1 F_at_sign := ⟨_, fd_9, fn_ok (T := T_at_sign) F_9 sc_at_sign (fun ds d h => FU_some h) (fun cdv A outer s H E hr => d_at_sign fx  cdv A outer s H E hr), He.meth_ok (cd.fact 42 (f := .meth "Web" "at_sign") rfl), (F_9.bindsN fun _ _ _ _ _ _ us hl => match us, hl with | [_, _, _], _ => rfl)⟩
  have f_is_number : FnK P w K mg base (⟨fun i => match i with | 0 => He.ga K "Web" | _ => He.ga K "Plan", w⟩) "is_number" ["thing", "least", "most"] 1 F_is_number := .of (fn_ok (T := T_is_number) F_10 sc_is_number (fun ds d h => FU_some h) (fun cdv A outer s H E hr => d_is_number fx  cdv A outer s H E hr)) (He.glo_ok X G (cd.fact 43 (f := .glo "is_number") rfl)) F_10.kp (F_10.bindsN fun _ _ _ _ _ _ us hl => match us, hl with | [_, _, _], _ => rfl)
  have f_are_goes : FnK P w K mg base (⟨fun i => match i with | 0 => He.ga K "Web" | _ => He.ga K "Plan", w⟩) "are_goes" ["thing", "signs", "many"] 2 F_are_goes := .of (fn_ok (T := T_are_goes) F_11 sc_are_goes (fun ds d h => FU_some h) (fun cdv A outer s H E hr => d_are_goes fx f_is_number cdv A outer s H E hr)) (He.glo_ok X G (cd.fact 44 (f := .glo "are_goes") rfl)) F_11.kp (F_11.bindsN fun _ _ _ _ _ _ us hl => match us, hl with | [_, _, _], _ => rfl)
  have f_check_plan : FnK P w K mg base (⟨fun i => match i with | 0 => He.ga K "Web" | _ => He.ga K "Plan", w⟩) "check_plan" ["begins", "steps"] 3 F_check_plan := .of (fn_ok (T := T_check_plan) F_12 sc_check_plan (fun ds d h => FU_some h) (fun cdv A outer s H E hr => d_check_plan fx f_are_goes f_is_name cdv A outer s H E hr)) (He.glo_ok X G (cd.fact 45 (f := .glo "check_plan") rfl)) F_12.kp (F_12.bindsN fun _ _ _ _ _ _ us hl => match us, hl with | [_, _], _ => rfl)
  have i_Plan : MkK P w K mg base (⟨fun i => match i with | 0 => He.ga K "Web" | _ => He.ga K "Plan", w⟩) 1 "Plan" ["self", "begins", "steps"] 4 I_Plan := ⟨_, fd_13, init_ok (T := T_initP) F_13 sc_initP (fun ds d h => IU_some h) (by decide) (fun cdv A outer s H E hr => d_initP fx f_check_plan cdv A outer s H E hr), He.mkr_ok (cd.fact 46 (f := .mkr "Plan") rfl), He.glo_ok X G (cd.fact 23 (f := .glo "Plan") rfl), (F_13.bindsN fun _ _ _ _ _ _ us hl => match us, hl with | [_, _, _], _ => rfl)⟩
  have e_fits : MeK P w K mg base (⟨fun i => match i with | 0 => He.ga K "Web" | _ => He.ga K "Plan", w⟩) 1 "fits" ["self", "web"] 2 F_fits := ⟨_, fd_14, fn_ok (T := T_fits) F_14 sc_fits (fun ds d h => FU_some h) (fun cdv A outer s H E hr => d_fits fx e_signs cdv A outer s H E hr), He.meth_ok (cd.fact 47 (f := .meth "Plan" "fits") rfl), (F_14.bindsN fun _ _ _ _ _ _ us hl => match us, hl with | [_, _], _ => rfl)⟩
  have f_check_fits : FnK P w K mg base (⟨fun i => match i with | 0 => He.ga K "Web" | _ => He.ga K "Plan", w⟩) "check_fits" ["web", "plan"] 3 F_check_fits := .of (fn_ok (T := T_check_fits) F_15 sc_check_fits (fun ds d h => FU_some h) (fun cdv A outer s H E hr => d_check_fits fx e_fits cdv A outer s H E hr)) (He.glo_ok X G (cd.fact 48 (f := .glo "check_fits") rfl)) F_15.kp (F_15.bindsN fun _ _ _ _ _ _ us hl => match us, hl with | [_, _], _ => rfl)
  have f_apart : FnK P w K mg base (⟨fun i => match i with | 0 => He.ga K "Web" | _ => He.ga K "Plan", w⟩) "apart" ["web", "one", "other"] 4 F_apart := .of (fn_ok (T := T_apart) F_16 sc_apart (fun ds d h => FU_some h) (fun cdv A outer s H E hr => d_apart fx e_signs e_at_sign e_reached f_check_fits cdv A outer s H E hr)) (He.glo_ok X G (cd.fact 49 (f := .glo "apart") rfl)) F_16.kp (F_16.bindsN fun _ _ _ _ _ _ us hl => match us, hl with | [_, _, _], _ => rfl)
  have f__law_draw : FnK P w K mg base (⟨fun i => match i with | 0 => He.ga K "Web" | _ => He.ga K "Plan", w⟩) "_law_draw" ["_law_cell", "_law_k", "_law_many"] 1 F__law_draw := .of (fn_ok (T := T__law_draw) F_17 sc__law_draw (fun ds d h => (FT_some h).1) (fun cdv A outer s H E hr => d__law_draw fx  cdv A outer s H E hr)) (He.glo_ok X G (cd.fact 50 (f := .glo "_law_draw") rfl)) F_17.kp (F_17.bindsN fun _ _ _ _ _ _ us hl => match us, hl with | [_, _, _], _ => rfl)
  have f__law_cell_at : FnK P w K mg base (⟨fun i => match i with | 0 => He.ga K "Web" | _ => He.ga K "Plan", w⟩) "_law_cell_at" ["_law_script", "_law_k"] 2 F__law_cell_at := .of (fn_ok (T := T__law_cell_at) F_18 sc__law_cell_at (fun ds d h => (FT_some h).1) (fun cdv A outer s H E hr => d__law_cell_at fx f__law_draw cdv A outer s H E hr)) (He.glo_ok X G (cd.fact 51 (f := .glo "_law_cell_at") rfl)) F_18.kp (F_18.bindsN fun _ _ _ _ _ _ us hl => match us, hl with | [_, _], _ => rfl)
  have f__law_digits : FnK P w K mg base (⟨fun i => match i with | 0 => He.ga K "Web" | _ => He.ga K "Plan", w⟩) "_law_digits" ["_law_script", "_law_at", "_law_many", "_law_base"] 3 F__law_digits := .of (fn_ok (T := T__law_digits) F_19 sc__law_digits (fun ds d h => (FT_some h).1) (fun cdv A outer s H E hr => d__law_digits fx f__law_draw f__law_cell_at cdv A outer s H E hr)) (He.glo_ok X G (cd.fact 52 (f := .glo "_law_digits") rfl)) F_19.kp (F_19.bindsN fun _ _ _ _ _ _ us hl => match us, hl with | [_, _, _, _], _ => rfl)
  have f__law_web : FnK P w K mg base (⟨fun i => match i with | 0 => He.ga K "Web" | _ => He.ga K "Plan", w⟩) "_law_web" ["_law_script", "_law_at", "_law_most"] 4 F__law_web := .of (fn_ok (T := T__law_web) F_20 sc__law_web (fun ds d h => (FT_some h).1) (fun cdv A outer s H E hr => d__law_web fx f__law_digits cdv A outer s H E hr)) (He.glo_ok X G (cd.fact 53 (f := .glo "_law_web") rfl)) F_20.kp (F_20.bindsN fun _ _ _ _ _ _ us hl => match us, hl with | [_, _, _], _ => rfl)
  have f__law_plan : FnK P w K mg base (⟨fun i => match i with | 0 => He.ga K "Web" | _ => He.ga K "Plan", w⟩) "_law_plan" ["_law_draws", "_law_letters", "_law_signs", "_law_many"] 1 F__law_plan := .of (fn_ok (T := T__law_plan) F_21 sc__law_plan (fun ds d h => FU_some h) (fun cdv A outer s H E hr => d__law_plan fx  cdv A outer s H E hr)) (He.glo_ok X G (cd.fact 54 (f := .glo "_law_plan") rfl)) F_21.kp (F_21.bindsN fun _ _ _ _ _ _ us hl => match us, hl with | [_, _, _, _], _ => rfl)
  have f__law_other : FnK P w K mg base (⟨fun i => match i with | 0 => He.ga K "Web" | _ => He.ga K "Plan", w⟩) "_law_other" ["_law_plan_here", "_law_draws", "_law_letters"] 1 F__law_other := .of (fn_ok (T := T__law_other) F_22 sc__law_other (fun ds d h => FU_some h) (fun cdv A outer s H E hr => d__law_other fx  cdv A outer s H E hr)) (He.glo_ok X G (cd.fact 55 (f := .glo "_law_other") rfl)) F_22.kp (F_22.bindsN fun _ _ _ _ _ _ us hl => match us, hl with | [_, _, _], _ => rfl)
  have f__law_due : FnK P w K mg base (⟨fun i => match i with | 0 => He.ga K "Web" | _ => He.ga K "Plan", w⟩) "_law_due" ["_law_parts", "_law_one", "_law_other_here"] 1 F__law_due5 := .of (fn_ok (T := T__law_due5) F_23 sc__law_due5 (fun ds d h => FU_some h) (fun cdv A outer s H E hr => d__law_due5 fx  cdv A outer s H E hr)) (He.glo_ok X G (cd.fact 56 (f := .glo "_law_due") rfl)) F_23.kp (F_23.bindsN fun _ _ _ _ _ _ us hl => match us, hl with | [_, _, _], _ => rfl)
  refine FunD.ok F_24 sc_law5 (fun vs H Q E h => ?_) (fun cdv A outer s H vs Q E hr h => ⟨_, PSs.nox (d_law5 (κ := ⟨fun i => match i with | 0 => He.ga K "Web" | _ => He.ga K "Plan", w⟩) fx f_apart f__law_due i_Plan i_Web f__law_plan f__law_other f__law_web f__law_digits cdv A outer s H E hr), pure_law vs H Q E h⟩)
  obtain ⟨a, ns, rfl, _⟩ := h
  rfl
abbrev RwL : PySem.W.OpenRow := PySem.W.OpenLaw.row PySem.Challenge.rw_beliefplan_k05_whole_apart
abbrev hkL : PySem.W.Hook := He.hookX 5 faL fnL [] [] exL
def obL (s : PySem.W.SharedT) : He.AlX := He.obsX 5 faL fnL [] [] exL (HandSHeadRun.getT s)
theorem obL_eq (s : PySem.W.SharedT) : obL s = hkL.obs s.abs := He.obsX_eq (HandSHeadRun.getT_eq s)
def looseL0 : List PySem.Str := ["_wall", "PlanError", "BadLetters", "BadPlaces", "BadBegins", "BadWays", "BadPlan", "SIGNS", "LONGEST", "MOST_LETTERS", "MOST_PLACES", "is_name", "are_some", "are_letters", "are_places", "are_ways", "Web", "MOST_STEPS", "is_number", "are_goes", "check_plan", "Plan", "check_fits", "apart", "_law_draw", "_law_cell_at", "_law_digits", "_law_web", "_law_plan", "_law_other"]
def looseL1 : List PySem.Str := ["_law_due"]
abbrev looseL : List PySem.Str := looseL0 ++ looseL1
set_option maxHeartbeats 0 in
theorem runL (w : World) : HandSHeadRun.RunEq RwL (PySem.W.view RwL.prog [36]) hkL obL 4000 looseL w := by
  intro os
  kernel_rfl
end BP
open PySem PySem.W PySem.Calls PyProof.Rows
set_option maxRecDepth 100000 in
set_option maxHeartbeats 0 in
theorem PySem.Challenge.cw_beliefplan_k05_whole_apart_holds : PySem.Challenge.rw_beliefplan_k05_whole_apart.Holds := by
  w_on; o_law
  refine HandSHeadRun.head_any (r := OpenLaw.row PySem.Challenge.rw_beliefplan_k05_whole_apart) (q := view (OpenLaw.row PySem.Challenge.rw_beliefplan_k05_whole_apart).prog [36]) (H := BP.hkL) (ob := BP.obL) (M := 4000) (loose := BP.looseL) (d := HandSHeadRun.topDef (OpenLaw.row PySem.Challenge.rw_beliefplan_k05_whole_apart).prog 36) (kwd := []) BP.obL_eq
    (by kernel_rfl) (fun s => by kernel_rfl) BP.runL (by kernel_rfl) (by kernel_rfl) (by kernel_rfl) (by rfl) (by first | assumption | decide +kernel) (by decide +kernel) ⟨rfl, rfl, rfl, rfl, rfl, by decide +kernel⟩ ?hw ?hc
  case hw => w_witness2
  case hc =>
    refine L2.walk_ofE (l := PySem.Challenge.rw_beliefplan_k05_whole_apart) (n := 63) (k := 6) (x := "_law_script") (CX := L2.CX0) rfl (by decide) (by kernel_rfl) ⟨rfl, by decide, by decide⟩ ?F (fun _ _ _ _ z => z)
    intro w mg fa h Y G hmg0
    obtain ⟨K, KX, c⟩ := Y
    have hmg : mg ("law" : PySem.Str) = some (.ref fa) := by
      have e : (HandSHeadRun.topDef (OpenLaw.row PySem.Challenge.rw_beliefplan_k05_whole_apart).prog 36).name = ("law" : PySem.Str) := by kernel_rfl
      rw [← e]
      exact hmg0
    obtain ⟨fd, hb, hF⟩ := BP.facts (P := (PySem.Challenge.rw_beliefplan_k05_whole_apart).prog) (w := w) KX G hmg c
    exact ⟨K, fd, BP.spLaw K, KX, hb, fun H a ns hl _ hS => ⟨a, ns, rfl, hS, hl, fun _ => rfl⟩, hF⟩
