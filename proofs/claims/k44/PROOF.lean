import PyProof.Rows.All
import Wide.All
import OpenK.AllK
import Wide.FinOn
import PySem.Str
import HandS.ForMost
import HandS.ForExc
import HandS.Walk
import HandS.Wide
import HandS.IsInst
import HandS.Style
import HandS.Ends
import HandS.EndBits
import PySem.Challenge.RW_foreverrows_k44_common_parts
set_option Elab.async false
set_option linter.all false
set_option maxRecDepth 100000
/-! The data level: values as trees, owned lists, and what code does to them. No program here. -/
namespace Z
open PySem

/-- a value as a tree; scr: the script -/
inductive D where
  | non | bl (b : Bool) | int (i : Int) | str (s : Str) | lst (xs : List D) | tup (xs : List D) | scr (ns : List Int) | dct (kvs : List (D × D))

/-- a value of which lists may be owned (changed in place) -/
inductive OD where
  | frz (d : D) | lst (xs : List OD) | tup (xs : List OD)

mutual
def OD.er : OD → D
  | .frz d => d
  | .lst xs => .lst (OD.ers xs)
  | .tup xs => .tup (OD.ers xs)
def OD.ers : List OD → List D
  | [] => []
  | x :: xs => x.er :: OD.ers xs
end
theorem OD.ers_map : ∀ xs : List OD, OD.ers xs = xs.map OD.er
  | [] => rfl
  | x :: xs => by simp only [OD.ers, List.map_cons, OD.ers_map xs]

def D.scalar : D → Bool
  | .non => true | .bl _ => true | .int _ => true | .str _ => true
  | _ => false
mutual
def OD.closed : OD → Bool
  | .frz d => d.scalar
  | .lst xs => OD.closeds xs
  | .tup xs => OD.closeds xs
def OD.closeds : List OD → Bool
  | [] => true
  | x :: xs => x.closed && OD.closeds xs
end
theorem OD.closeds_all : ∀ xs : List OD, OD.closeds xs = xs.all OD.closed
  | [] => rfl
  | x :: xs => by simp only [OD.closeds, List.all_cons, OD.closeds_all xs]

/-! ### == -/
mutual
def D.eqv : D → D → Bool
  | .non, .non => true
  | .bl a, .bl b => a == b
  | .bl a, .int j => (if a then 1 else 0) == j
  | .int i, .bl b => i == (if b then 1 else 0)
  | .int i, .int j => i == j
  | .str x, .str y => x == y
  | .lst xs, .lst ys => D.eqvs xs ys
  | .tup xs, .tup ys => D.eqvs xs ys
  | _, _ => false
def D.eqvs : List D → List D → Bool
  | [], [] => true
  | x :: xs, y :: ys => D.eqv x y && D.eqvs xs ys
  | [], _ :: _ => false
  | _ :: _, [] => false
end
def okStr (x : Str) : Bool := x.cps.all (· < 0x110000)
/-! what == may be asked of: no dict, nested at most so deep -/
mutual
def D.okd : Nat → D → Bool
  | _, .non => true
  | _, .bl _ => true
  | _, .int _ => true
  | _, .str x => okStr x
  | 0, .lst _ => false
  | n + 1, .lst xs => D.okds n xs
  | 0, .tup _ => false
  | n + 1, .tup xs => D.okds n xs
  | _, .scr _ => false
  | _, .dct _ => false
def D.okds : Nat → List D → Bool
  | _, [] => true
  | n, x :: xs => D.okd n x && D.okds n xs
end

/-! ### environments -/
abbrev Ev := List (Option D)
abbrev G := List (Option OD)
def erG (g : G) : Ev := g.map (Option.map OD.er)
def fz (vs : List Nat) (g : G) : G := vs.foldl (fun g j => g.modify j (Option.map fun o => .frz o.er)) g
def rd {α : Type} (e : List (Option α)) (i : Nat) : Option α := (e[i]?).join

/-! ### expressions: read only -/
abbrev EX := Ev → Option OD
def EX.d (f : EX) (e : Ev) : Option D := (f e).map OD.er
def eVar (i : Nat) : EX := fun e => (rd e i).map .frz
def eC (d : D) : EX := fun _ => some (.frz d)
def eOp (op : D → D → Option OD) (a b : EX) : EX := fun e => (a.d e).bind fun x => (b.d e).bind fun y => op x y
def eUn (op : D → Option OD) (a : EX) : EX := fun e => (a.d e).bind op
def eds : List EX → Ev → Option (List D)
  | [], _ => some []
  | f :: fs, e => (f.d e).bind fun x => (eds fs e).bind fun xs => some (x :: xs)
def eods : List EX → Ev → Option (List OD)
  | [], _ => some []
  | f :: fs, e => (f e).bind fun x => (eods fs e).bind fun xs => some (x :: xs)
def eTup (fs : List EX) : EX := fun e => (eods fs e).map .tup
def eLst (fs : List EX) : EX := fun e => (eods fs e).map .lst
/-- a def, a built-in: by its value -/
abbrev Fn := List D → Option OD
def eCall (φ : Fn) (fs : List EX) : EX := fun e => (eds fs e).bind φ
/-- tests -/
abbrev TX := Ev → Option Bool
def D.asB : D → Option Bool
  | .bl b => some b
  | _ => none
def tV (f : EX) : TX := fun e => (f.d e).bind D.asB
def tAnd (a b : TX) : TX := fun e => (a e).bind fun x => if x then b e else some false
def tOr (a b : TX) : TX := fun e => (a e).bind fun x => if x then some true else b e
def tNot (a : TX) : TX := fun e => (a e).map (!·)
def tYes : TX := fun _ => some true
def eAnd (a b : EX) : EX := fun e => ((a.d e).bind D.asB).bind fun x => if x then b e else some (.frz (.bl false))
def eOr (a b : EX) : EX := fun e => ((a.d e).bind D.asB).bind fun x => if x then some (.frz (.bl true)) else b e
def eNot (a : EX) : EX := fun e => ((a.d e).bind D.asB).map fun x => .frz (.bl (!x))
def eIf (c : TX) (a b : EX) : EX := fun e => (c e).bind fun x => if x then a e else b e

/-! ### operators on values -/
def sz : Nat := 16777216
def mulOk (i j : Int) : Bool := decide (i.natAbs.log2 + j.natAbs.log2 < 134217000)
def fI (i : Int) : OD := .frz (.int i)
def fB (b : Bool) : OD := .frz (.bl b)
def opAdd : D → D → Option OD
  | .int i, .int j => some (fI (i + j))
  | .str x, .str y => if x.length + y.length ≤ sz then some (.frz (.str (x ++ y))) else none
  | .lst xs, .lst ys => if xs.length + ys.length ≤ sz then some (.lst (xs.map .frz ++ ys.map .frz)) else none
  | _, _ => none
def opSub : D → D → Option OD
  | .int i, .int j => some (fI (i - j))
  | _, _ => none
def opMul : D → D → Option OD
  | .int i, .int j => if mulOk i j then some (fI (i * j)) else none
  | _, _ => none
def opFdiv : D → D → Option OD
  | .int i, .int j => if j = 0 then none else some (fI (i.fdiv j))
  | _, _ => none
def opMod : D → D → Option OD
  | .int i, .int j => if j = 0 then none else some (fI (i.fmod j))
  | _, _ => none
def opPow : D → D → Option OD
  | .int i, .int j => if 0 ≤ j ∧ j ≤ 1000000 ∧ i.natAbs < 2 ^ 64 then some (fI (i ^ j.toNat)) else none
  | _, _ => none
def opNeg : D → Option OD
  | .int i => some (fI (-i))
  | _ => none
def opEq (x y : D) : Option OD := if D.okd 60 x && D.okd 60 y then some (fB (D.eqv x y)) else none
def opNe (x y : D) : Option OD := if D.okd 60 x && D.okd 60 y then some (fB (!D.eqv x y)) else none
def opLt : D → D → Option OD
  | .int i, .int j => some (fB (decide (i < j)))
  | _, _ => none
def opLe : D → D → Option OD
  | .int i, .int j => some (fB (decide (i ≤ j)))
  | _, _ => none
def opGt : D → D → Option OD
  | .int i, .int j => some (fB (decide (j < i)))
  | _, _ => none
def opGe : D → D → Option OD
  | .int i, .int j => some (fB (decide (j ≤ i)))
  | _, _ => none
/-- a < b < c: b asked once -/
def eChain (op op' : D → D → Option OD) (a b c : EX) : EX := fun e => (a.d e).bind fun x => (b.d e).bind fun y => (op x y).bind fun z => (D.asB z.er).bind fun t =>
  if t then (c.d e).bind fun w => op' y w else some (fB false)
/-- the place that an index means -/
def place (n : Nat) (i : Int) : Option Nat := if 0 ≤ i then (if i < n then some i.toNat else none) else if -(n : Int) ≤ i then some (i + n).toNat else none
def at' {α : Type} (xs : List α) (i : Int) : Option α := (place xs.length i).bind fun j => xs[j]?
def opIdx : D → D → Option OD
  | .lst xs, .int i => (at' xs i).map .frz
  | .tup xs, .int i => (at' xs i).map .frz
  | .scr ns, .int i => (at' ns i).map fI
  | .str z, .int i => (if z.length ≤ sz then at' z.cps.toList i else none).map fun c => .frz (.str ⟨#[c]⟩)
  | _, _ => none
/-- the bound that a slice's part means -/
def cutIx (n d : Nat) : Option Int → Nat
  | none => d
  | some v => if v < 0 then (v + n).toNat else min v.toNat n
def cut {α : Type} (xs : List α) (lo hi : Option Int) : List α := (xs.drop (cutIx xs.length 0 lo)).take (cutIx xs.length xs.length hi - cutIx xs.length 0 lo)
def eOpt : Option EX → Ev → Option (Option Int)
  | none, _ => some none
  | some f, e => (f.d e).bind fun x => match x with
    | .int i => some (some i)
    | _ => none
def opCut (x : D) (lo hi : Option Int) : Option OD := match x with
  | .lst xs => some (.lst ((cut xs lo hi).map .frz))
  | .str z => if z.length ≤ sz then some (.frz (.str ⟨(cut z.cps.toList lo hi).toArray⟩)) else none
  | _ => none
def eCut (a : EX) (lo hi : Option EX) : EX := fun e => (a.d e).bind fun x => (eOpt lo e).bind fun l => (eOpt hi e).bind fun h => opCut x l h

def opRev : D → Option OD
  | .lst xs => some (.lst (xs.reverse.map .frz))
  | _ => none
def eRev (a : EX) : EX := eUn opRev a

/-! ### what is walked; comprehensions -/
abbrev IX := Ev → Option (List D)
def asL : D → Option (List D)
  | .lst xs => some xs
  | _ => none
def asT : D → Option (List D)
  | .tup xs => some xs
  | _ => none
def iLst (f : EX) : IX := fun e => (f.d e).bind asL
def iTup (f : EX) : IX := fun e => (f.d e).bind asT
def big62 (i : Int) : Bool := decide (-(2 ^ 62) ≤ i ∧ i < 2 ^ 62)
def rngL (lo : Int) (n : Nat) : List D := (List.range n).map fun (k : Nat) => .int (lo + (k : Int))
def asI : D → Option Int
  | .int i => some i
  | _ => none
def iRng1 (f : EX) : IX := fun e => ((f.d e).bind asI).bind fun j => if big62 j then some (rngL 0 j.toNat) else none
def iRng2 (f g : EX) : IX := fun e => ((f.d e).bind asI).bind fun i => ((g.d e).bind asI).bind fun j => if big62 i && big62 j then some (rngL i (j - i).toNat) else none
def zipD (xs ys : List D) : List D := (xs.zip ys).map fun p => .tup [p.1, p.2]
def iZip (f g : EX) : IX := fun e => ((f.d e).bind asL).bind fun xs => ((g.d e).bind asL).bind fun ys => some (zipD xs ys)
def iEnum (f : EX) : IX := fun e => ((f.d e).bind asL).bind fun xs => some (zipD (rngL 0 xs.length) xs)
/-- targets -/
abbrev TG := D → Ev → Option Ev
def gName (i : Nat) : TG := fun d e => some (e.set i (some d))
def gTup (is : List Nat) : TG := fun d e => match d with
  | .tup ds => if ds.length = is.length then some ((is.zip ds).foldl (fun e p => e.set p.1 (some p.2)) e) else none
  | _ => none
def wipeE (e : Ev) : List Nat → Ev
  | [] => e
  | v :: vs => (wipeE e vs).set v none
def compGo (g : TG) (t : TX) (f : EX) (e : Ev) : List D → Option (List OD)
  | [] => some []
  | d :: ds => (g d e).bind fun e' => (t e').bind fun b => if b then (f e').bind fun o => (compGo g t f e ds).bind fun os => some (o :: os) else compGo g t f e ds
/-- [f for g in src if t]; own: the names that are the comprehension's -/
def eComp (own : List Nat) (src : IX) (g : TG) (t : TX) (f : EX) : EX := fun e => (src e).bind fun ds => if ds.length ≤ sz then (compGo g t f (wipeE e own) ds).map .lst else none

/-! ### statements -/
structure Post where
  nx : G → Prop
  rt : OD → Prop
  bk : G → Prop := fun _ => False
  ct : G → Prop := fun _ => False
abbrev S := Post → G → Prop
/-- expressions whose value is taken: what is owned moves, what is read and not plain is frozen -/
abbrev OX := G → Option (OD × G)
def oE (vs : List Nat) (f : EX) : OX := fun g => (f (erG g)).map fun o => (o, if o.closed then g else fz vs g)
def oMv (i : Nat) : OX := fun g => (rd g i).map fun o => (o, g.set i none)
def oList : List OX → G → Option (List OD × G)
  | [], g => some ([], g)
  | o :: os, g => (o g).bind fun p => (oList os p.2).bind fun q => some (p.1 :: q.1, q.2)
def oTup (os : List OX) : OX := fun g => (oList os g).map fun p => (.tup p.1, p.2)

def sSkip : S := fun P g => P.nx g
def sSeq (a b : S) : S := fun P g => a { P with nx := b P } g
def sAsg (i : Nat) (o : OX) : S := fun P g => ∃ r g', o g = some (r, g') ∧ P.nx (g'.set i (some r))
/-- a, b = e: of a tuple -/
def putAll (is : List Nat) (os : List OD) (g : G) : G := (is.zip os).foldl (fun g p => g.set p.1 (some p.2)) g
def untup (n : Nat) : OD → Option (List OD)
  | .tup os => if os.length = n then some os else none
  | .frz (.tup ds) => if ds.length = n then some (ds.map .frz) else none
  | _ => none
def sUnp (is : List Nat) (o : OX) : S := fun P g => ∃ r g' os, o g = some (r, g') ∧ untup is.length r = some os ∧ P.nx (putAll is os g')
/-- a, b = x, y: no tuple -/
def sPar (is : List Nat) (os : List OX) : S := fun P g => ∃ rs g', oList os g = some (rs, g') ∧ rs.length = is.length ∧ P.nx (putAll is rs g')
def sDrop (f : EX) : S := fun P g => ∃ o, f (erG g) = some o ∧ P.nx g
def sRet (o : OX) : S := fun P g => ∃ r g', o g = some (r, g') ∧ P.rt r
def sIf (c : TX) (a b : S) : S := fun P g => ∃ t, c (erG g) = some t ∧ (t = true → a P g) ∧ (t = false → b P g)
def sBrk : S := fun P g => P.bk g
def sCnt : S := fun P g => P.ct g
def sWhile (c : TX) (b : S) : S := fun P g => ∃ W : Nat → G → Prop, (∃ m, W m g) ∧ ∀ m g, W m g → ∃ t, c (erG g) = some t ∧
  (t = true → b { P with nx := fun g' => ∃ m', m' < m ∧ W m' g', ct := fun g' => ∃ m', m' < m ∧ W m' g', bk := P.nx } g) ∧ (t = false → P.nx g)
/-- the loop's name takes the item, frozen -/
abbrev SG := D → G → Option G
def hName (i : Nat) : SG := fun d g => some (g.set i (some (.frz d)))
def hTup (is : List Nat) : SG := fun d g => match d with
  | .tup ds => if ds.length = is.length then some (putAll is (ds.map .frz) g) else none
  | _ => none
def sFor (vs : List Nat) (src : IX) (h : SG) (b : S) : S := fun P g => ∃ ds, src (erG g) = some ds ∧ ∃ W : Nat → G → Prop, W 0 (fz vs g) ∧
  (∀ k d g, ds[k]? = some d → W k g → ∃ g', h d g = some g' ∧ b { P with nx := W (k + 1), ct := W (k + 1), bk := P.nx } g') ∧ (∀ g, W ds.length g → P.nx g)
/-- for x in range(..): nothing is frozen -/
abbrev RX := Ev → Option (Int × Nat)
def rRng1 (f : EX) : RX := fun e => ((f.d e).bind asI).bind fun j => if big62 j then some (0, j.toNat) else none
def rRng2 (f g : EX) : RX := fun e => ((f.d e).bind asI).bind fun i => ((g.d e).bind asI).bind fun j => if big62 i && big62 j then some (i, (j - i).toNat) else none
def sForR (src : RX) (i : Nat) (b : S) : S := fun P g => ∃ lo n, src (erG g) = some (lo, n) ∧ ∃ W : Nat → G → Prop, W 0 g ∧
  (∀ (k : Nat) g, k < n → W k g → b { P with nx := W (k + 1), ct := W (k + 1), bk := P.nx } (g.set i (some (fI (lo + (k : Int)))))) ∧ (∀ g, W n g → P.nx g)
/-- a list of the name i changes in place; what is handed on -/
def lstAt (i : Nat) (g : G) : Option (List OD) := (rd g i).bind fun o => match o with
  | .lst xs => some xs
  | _ => none
def sApp (i : Nat) (o : OX) : S := fun P g => ∃ r g' xs ys, o g = some (r, g') ∧ lstAt i g = some ys ∧ lstAt i g' = some xs ∧ xs.length < sz ∧ P.nx (g'.set i (some (.lst (xs ++ [r]))))
def sPop (i : Nat) : S := fun P g => ∃ xs, lstAt i g = some xs ∧ xs ≠ [] ∧ P.nx (g.set i (some (.lst xs.dropLast)))
/-- x[k] = e -/
def sSet (i : Nat) (k : EX) (o : OX) : S := fun P g => ∃ r g' j n xs, o g = some (r, g') ∧ k.d (erG g') = some (.int j) ∧ lstAt i g' = some xs ∧ place xs.length j = some n ∧ P.nx (g'.set i (some (.lst (xs.set n r))))
/-- x[k] op= e, plain numbers -/
def sAugSet (i : Nat) (k : EX) (op : D → D → Option OD) (f : EX) : S := fun P g => ∃ j n xs x y r, k.d (erG g) = some (.int j) ∧ lstAt i g = some xs ∧ place xs.length j = some n ∧ xs[n]? = some (.frz (.int x)) ∧
  f.d (erG g) = some (.int y) ∧ op (.int x) (.int y) = some (fI r) ∧ P.nx (g.set i (some (.lst (xs.set n (fI r)))))
/-- x op= e, plain numbers -/
def sAug (i : Nat) (op : D → D → Option OD) (f : EX) : S := fun P g => ∃ x y r, rd (erG g) i = some (.int x) ∧ f.d (erG g) = some (.int y) ∧ op (.int x) (.int y) = some (fI r) ∧ P.nx (g.set i (some (fI r)))

/-- a def: its slots, its body's work; what it is worth -/
def start (n : Nat) (ds : List D) : G := ds.map (fun d => some (.frz d)) ++ List.replicate (n - ds.length) none
def Does (n : Nat) (w : S) (φ : Fn) : Prop := ∀ ds o, φ ds = some o → w { nx := fun _ => o = .frz .non, rt := fun r => r = o } (start n ds)

/-! ### built-ins -/
def pLen : Fn
  | [.lst xs] => some (fI xs.length)
  | [.tup xs] => some (fI xs.length)
  | [.scr xs] => some (fI xs.length)
  | [.str z] => if z.length ≤ sz then some (fI z.length) else none
  | _ => none
def pAbs : Fn
  | [.int i] => some (fI (if i < 0 then -i else i))
  | _ => none
def pMax2 : Fn
  | [.int i, .int j] => some (fI (if j > i then j else i))
  | _ => none
def pMin2 : Fn
  | [.int i, .int j] => some (fI (if j < i then j else i))
  | _ => none
def pInt : Fn
  | [.int i] => some (fI i)
  | [.bl b] => some (fI (if b then 1 else 0))
  | _ => none
def pList : Fn
  | [.lst xs] => some (.lst (xs.map .frz))
  | [.tup xs] => some (.lst (xs.map .frz))
  | _ => none
def asInts : List D → Option (List Int)
  | [] => some []
  | .int i :: r => (asInts r).map (i :: ·)
  | _ :: _ => none
def asBls : List D → Option (List Bool)
  | [] => some []
  | .bl i :: r => (asBls r).map (i :: ·)
  | _ :: _ => none
def pSum : Fn
  | [.lst xs] => (asInts xs).map fun ns => fI ns.sum
  | _ => none
def pAll : Fn
  | [.lst xs] => (asBls xs).map fun bs => fB (bs.all id)
  | _ => none
def pAny : Fn
  | [.lst xs] => (asBls xs).map fun bs => fB (bs.any id)
  | _ => none
/-- isinstance(x, int), (x, bool), .. -/
def D.ty : D → String
  | .non => "NoneType" | .bl _ => "bool" | .int _ => "int" | .str _ => "str" | .lst _ => "list" | .tup _ => "tuple" | .scr _ => "list" | .dct _ => "dict"
def pIsi (T : String) : Fn
  | [.scr _] => none
  | [.dct _] => none
  | [x] => some (fB (x.ty == T || (T == "int" && x.ty == "bool")))
  | _ => none
end Z
/-! How trees lie in a heap; states. -/
namespace Z
open PySem L2

mutual
inductive Rep (K : PySem.W.Frag) (F : Hp) : V → D → Prop
  | non : Rep K F .non .non
  | bl (b : Bool) : Rep K F (.bl b) (.bl b)
  | int (i : Int) : Rep K F (.int i) (.int i)
  | str (x : Str) : Rep K F (.str x) (.str x)
  | lst {a : Addr} {vs : List V} {ds : List D} : F a = some (.lst vs) → vs.length ≤ sizeLine → Reps K F vs ds → Rep K F (.ref a) (.lst ds)
  | tup {a : Addr} {vs : List V} {ds : List D} : SqT K F a vs → vs.length ≤ sizeLine → Reps K F vs ds → Rep K F (.ref a) (.tup ds)
  | scr {a : Addr} {ns : List Int} : SqL K F a (ns.map V.int) → Rep K F (.ref a) (.scr ns)
inductive Reps (K : PySem.W.Frag) (F : Hp) : List V → List D → Prop
  | nil : Reps K F [] []
  | cons {v : V} {vs : List V} {d : D} {ds : List D} : Rep K F v d → Reps K F vs ds → Reps K F (v :: vs) (d :: ds)
end

theorem same_sqT {K : PySem.W.Frag} {H H' : Hp} {a : Addr} {xs : List V} (e : Same H H') (h : SqT K H a xs) : SqT K H' a xs := by
  rcases h with (h | ⟨o, h⟩) | h
  · exact .inl (.inl (e _ _ h))
  · exact .inl (.inr ⟨o, e _ _ h⟩)
  · exact .inr h

mutual
theorem Rep.mono {K : PySem.W.Frag} {F F' : Hp} (e : Same F F') : ∀ {d : D} {v : V}, Rep K F v d → Rep K F' v d
  | _, _, .non => .non
  | _, _, .bl b => .bl b
  | _, _, .int i => .int i
  | _, _, .str x => .str x
  | _, _, .lst h l r => .lst (e _ _ h) l (Reps.mono e r)
  | _, _, .tup h l r => .tup (same_sqT e h) l (Reps.mono e r)
  | _, _, .scr h => .scr (e.seq h)
theorem Reps.mono {K : PySem.W.Frag} {F F' : Hp} (e : Same F F') : ∀ {ds : List D} {vs : List V}, Reps K F vs ds → Reps K F' vs ds
  | _, _, .nil => .nil
  | _, _, .cons h r => .cons (Rep.mono e h) (Reps.mono e r)
end
section
variable {K : PySem.W.Frag} {F H : Hp}
theorem Reps.length : ∀ {vs : List V} {ds : List D}, Reps K F vs ds → vs.length = ds.length
  | _, _, .nil => rfl
  | _, _, .cons _ r => by rw [List.length_cons, List.length_cons, Reps.length r]
theorem Reps.get : ∀ {vs : List V} {ds : List D} {i : Nat} {d : D}, Reps K F vs ds → ds[i]? = some d → ∃ v, vs[i]? = some v ∧ Rep K F v d
  | _, _, _, _, .nil, h => by simp at h
  | _, _, 0, _, .cons h _, e => by simp at e; subst e; exact ⟨_, rfl, h⟩
  | _, _, i + 1, _, .cons _ r, e => by
    obtain ⟨v, h1, h2⟩ := Reps.get (i := i) r (by simpa using e)
    exact ⟨v, by simpa using h1, h2⟩
theorem Reps.append : ∀ {vs ws : List V} {ds es : List D}, Reps K F vs ds → Reps K F ws es → Reps K F (vs ++ ws) (ds ++ es)
  | _, _, _, _, .nil, s => s
  | _, _, _, _, .cons h r, s => .cons h (Reps.append r s)
theorem Reps.take : ∀ {vs : List V} {ds : List D} (n : Nat), Reps K F vs ds → Reps K F (vs.take n) (ds.take n)
  | _, _, 0, _ => .nil
  | _, _, _ + 1, .nil => .nil
  | _, _, n + 1, .cons h r => .cons h (Reps.take n r)
theorem Reps.drop : ∀ {vs : List V} {ds : List D} (n : Nat), Reps K F vs ds → Reps K F (vs.drop n) (ds.drop n)
  | _, _, 0, r => r
  | _, _, _ + 1, .nil => .nil
  | _, _, n + 1, .cons _ r => Reps.drop n r
theorem Reps.of_get : ∀ {vs : List V} {ds : List D}, vs.length = ds.length → (∀ (i : Nat) (d : D), ds[i]? = some d → ∃ v, vs[i]? = some v ∧ Rep K F v d) → Reps K F vs ds
  | [], [], _, _ => .nil
  | v :: vs, d :: ds, hl, h => by
    obtain ⟨v', e, r⟩ := h 0 d rfl
    cases e
    exact .cons r (Reps.of_get (by simpa using hl) fun i d' e' => h (i + 1) d' (by simpa using e'))
  | [], _ :: _, hl, _ => by simp at hl
  | _ :: _, [], hl, _ => by simp at hl
theorem Reps.ints : ∀ {vs : List V} {ds : List D} {ns : List Int}, Reps K F vs ds → asInts ds = some ns → vs = ns.map V.int
  | _, _, _, .nil, h => by simp [asInts] at h; subst h; rfl
  | _, _, _, .cons (d := .int i) h r, e => by
    simp only [asInts, Option.map_eq_some_iff] at e
    obtain ⟨ms, e1, e2⟩ := e
    subst e2
    cases h
    rw [Reps.ints r e1]; rfl
  | _, _, _, .cons (d := .non) _ _, e => by simp [asInts] at e
  | _, _, _, .cons (d := .bl _) _ _, e => by simp [asInts] at e
  | _, _, _, .cons (d := .str _) _ _, e => by simp [asInts] at e
  | _, _, _, .cons (d := .lst _) _ _, e => by simp [asInts] at e
  | _, _, _, .cons (d := .tup _) _ _, e => by simp [asInts] at e
  | _, _, _, .cons (d := .scr _) _ _, e => by simp [asInts] at e
  | _, _, _, .cons (d := .dct _) _ _, e => by simp [asInts] at e
theorem Reps.bls : ∀ {vs : List V} {ds : List D} {ns : List Bool}, Reps K F vs ds → asBls ds = some ns → vs = ns.map V.bl
  | _, _, _, .nil, h => by simp [asBls] at h; subst h; rfl
  | _, _, _, .cons (d := .bl i) h r, e => by
    simp only [asBls, Option.map_eq_some_iff] at e
    obtain ⟨ms, e1, e2⟩ := e
    subst e2
    cases h
    rw [Reps.bls r e1]; rfl
  | _, _, _, .cons (d := .non) _ _, e => by simp [asBls] at e
  | _, _, _, .cons (d := .int _) _ _, e => by simp [asBls] at e
  | _, _, _, .cons (d := .str _) _ _, e => by simp [asBls] at e
  | _, _, _, .cons (d := .lst _) _ _, e => by simp [asBls] at e
  | _, _, _, .cons (d := .tup _) _ _, e => by simp [asBls] at e
  | _, _, _, .cons (d := .scr _) _ _, e => by simp [asBls] at e
  | _, _, _, .cons (d := .dct _) _ _, e => by simp [asBls] at e
theorem Rep.of_scalar {F' : Hp} {d : D} {v : V} (hd : d.scalar = true) (h : Rep K F v d) : Rep K F' v d := by
  cases h with
  | non => exact .non
  | bl => exact .bl _
  | int => exact .int _
  | str => exact .str _
  | lst => cases hd
  | tup => cases hd
  | scr => cases hd
end

/-! ### for == -/
mutual
def toPy : D → PyData
  | .non => .none
  | .bl b => .bool b
  | .int i => .int i
  | .str x => .str x
  | .lst xs => .list (toPys xs)
  | .tup xs => .tuple (toPys xs)
  | .scr _ => .none
  | .dct _ => .none
def toPys : List D → List PyData
  | [] => []
  | x :: xs => toPy x :: toPys xs
end
mutual
theorem dp_of {K : PySem.W.Frag} {F : Hp} : ∀ {d : D} {v : V} {n : Nat}, D.okd n d = true → Rep K F v d → Dp K F v (toPy d)
  | _, _, _, _, .non => .non
  | _, _, _, _, .bl b => .bl b
  | _, _, _, _, .int i => .int i
  | _, _, _, _, .str x => .str x
  | _, _, 0, ok, .lst h _ r => by simp [D.okd] at ok
  | _, _, n + 1, ok, .lst h _ r => by
    simp only [D.okd] at ok
    exact .lst (.inl (.inl h)) (dps_of ok r)
  | _, _, 0, ok, .tup h _ r => by simp [D.okd] at ok
  | _, _, n + 1, ok, .tup h _ r => by
    simp only [D.okd] at ok
    exact .tup h (dps_of ok r)
  | _, _, n, ok, .scr _ => by simp [D.okd] at ok
theorem dps_of {K : PySem.W.Frag} {F : Hp} : ∀ {ds : List D} {vs : List V} {n : Nat}, D.okds n ds = true → Reps K F vs ds → DpAll K F vs (toPys ds)
  | _, _, _, _, .nil => .nil
  | _, _, n, ok, .cons h r => by
    simp only [D.okds, Bool.and_eq_true] at ok
    exact .cons (dp_of ok.1 h) (dps_of ok.2 r)
end
mutual
theorem lay_of : ∀ (d : D) (n : Nat), D.okd n d = true → (toPy d).canLay0 = true ∧ (toPy d).depth ≤ n
  | .non, n, _ => ⟨rfl, Nat.zero_le _⟩
  | .bl _, n, _ => ⟨rfl, Nat.zero_le _⟩
  | .int _, n, _ => ⟨rfl, Nat.zero_le _⟩
  | .str x, n, h => ⟨by
      have h' : okStr x = true := by cases n <;> simpa only [D.okd] using h
      simp only [toPy, PyData.canLay0]
      exact h', Nat.zero_le _⟩
  | .lst xs, 0, h => by simp [D.okd] at h
  | .tup xs, 0, h => by simp [D.okd] at h
  | .lst xs, n + 1, h => by
    simp only [D.okd] at h
    have := lays_of xs n h
    simp only [toPy, PyData.canLay0, PyData.depth]
    exact ⟨this.1, by omega⟩
  | .tup xs, n + 1, h => by
    simp only [D.okd] at h
    have := lays_of xs n h
    simp only [toPy, PyData.canLay0, PyData.depth]
    exact ⟨this.1, by omega⟩
  | .scr _, n, h => by cases n <;> simp [D.okd] at h
  | .dct _, n, h => by cases n <;> simp [D.okd] at h
theorem lays_of : ∀ (ds : List D) (n : Nat), D.okds n ds = true → PyData.canLayAll0 (toPys ds) = true ∧ PyData.depthAll (toPys ds) ≤ n
  | [], n, _ => ⟨by simp [toPys, PyData.canLayAll0], by simp [toPys, PyData.depthAll]⟩
  | d :: ds, n, h => by
    simp only [D.okds, Bool.and_eq_true] at h
    have h1 := lay_of d n h.1
    have h2 := lays_of ds n h.2
    simp only [toPys, PyData.canLayAll0, PyData.depthAll, h1.1, h2.1, Bool.and_self, true_and]
    omega
end
theorem shaped_of {d : D} {n : Nat} (hn : n ≤ 64) (h : D.okd n d = true) : SeqAt.shaped (toPy d) = true := by
  have := lay_of d n h
  unfold SeqAt.shaped
  rw [this.1, decide_eq_true (by omega)]
  rfl
mutual
theorem eqv_of : ∀ (d e : D) (n m : Nat), D.okd n d = true → D.okd m e = true → (toPy d).eqv (toPy e) = d.eqv e
  | .lst xs, .lst ys, n, m, hx, hy => by
    cases n with
    | zero => simp [D.okd] at hx
    | succ n => cases m with
      | zero => simp [D.okd] at hy
      | succ m =>
        simp only [D.okd] at hx hy
        simp only [toPy, PyData.eqv, D.eqv]
        exact eqvs_of xs ys n m hx hy
  | .tup xs, .tup ys, n, m, hx, hy => by
    cases n with
    | zero => simp [D.okd] at hx
    | succ n => cases m with
      | zero => simp [D.okd] at hy
      | succ m =>
        simp only [D.okd] at hx hy
        simp only [toPy, PyData.eqv, D.eqv]
        exact eqvs_of xs ys n m hx hy
  | .scr _, _, n, m, hx, hy => by cases n <;> simp [D.okd] at hx
  | .dct _, _, n, m, hx, hy => by cases n <;> simp [D.okd] at hx
  | _, .scr _, n, m, hx, hy => by cases m <;> simp [D.okd] at hy
  | _, .dct _, n, m, hx, hy => by cases m <;> simp [D.okd] at hy
  | .non, .non, _, _, _, _ => rfl
  | .non, .bl _, _, _, _, _ => rfl
  | .non, .int _, _, _, _, _ => rfl
  | .non, .str _, _, _, _, _ => rfl
  | .non, .lst _, _, _, _, _ => rfl
  | .non, .tup _, _, _, _, _ => rfl
  | .bl _, .non, _, _, _, _ => rfl
  | .bl _, .bl _, _, _, _, _ => rfl
  | .bl _, .int _, _, _, _, _ => rfl
  | .bl _, .str _, _, _, _, _ => rfl
  | .bl _, .lst _, _, _, _, _ => rfl
  | .bl _, .tup _, _, _, _, _ => rfl
  | .int _, .non, _, _, _, _ => rfl
  | .int _, .bl _, _, _, _, _ => rfl
  | .int _, .int _, _, _, _, _ => rfl
  | .int _, .str _, _, _, _, _ => rfl
  | .int _, .lst _, _, _, _, _ => rfl
  | .int _, .tup _, _, _, _, _ => rfl
  | .str _, .non, _, _, _, _ => rfl
  | .str _, .bl _, _, _, _, _ => rfl
  | .str _, .int _, _, _, _, _ => rfl
  | .str _, .str _, _, _, _, _ => rfl
  | .str _, .lst _, _, _, _, _ => rfl
  | .str _, .tup _, _, _, _, _ => rfl
  | .lst _, .non, _, _, _, _ => rfl
  | .lst _, .bl _, _, _, _, _ => rfl
  | .lst _, .int _, _, _, _, _ => rfl
  | .lst _, .str _, _, _, _, _ => rfl
  | .lst _, .tup _, _, _, _, _ => rfl
  | .tup _, .non, _, _, _, _ => rfl
  | .tup _, .bl _, _, _, _, _ => rfl
  | .tup _, .int _, _, _, _, _ => rfl
  | .tup _, .str _, _, _, _, _ => rfl
  | .tup _, .lst _, _, _, _, _ => rfl
theorem eqvs_of : ∀ (ds es : List D) (n m : Nat), D.okds n ds = true → D.okds m es = true → PyData.eqvAll (toPys ds) (toPys es) = D.eqvs ds es
  | [], [], _, _, _, _ => by simp only [toPys, PyData.eqvAll, D.eqvs]
  | [], _ :: _, _, _, _, _ => by simp only [toPys, PyData.eqvAll, D.eqvs]
  | _ :: _, [], _, _, _, _ => by simp only [toPys, PyData.eqvAll, D.eqvs]
  | d :: ds, e :: es, n, m, hx, hy => by
    simp only [D.okds, Bool.and_eq_true] at hx hy
    simp only [toPys, PyData.eqvAll, D.eqvs]
    rw [eqv_of d e n m hx.1 hy.1, eqvs_of ds es n m hx.2 hy.2]
end

/-! ### owned -/
mutual
inductive Own (K : PySem.W.Frag) (F H : Hp) : List Addr → V → OD → Prop
  | frz {v : V} {d : D} : Rep K F v d → Own K F H [] v (.frz d)
  | lst {p : Addr} {vs : List V} {fp : List Addr} {os : List OD} : H p = some (.lst vs) → vs.length ≤ sizeLine → Owns K F H fp vs os → Own K F H (p :: fp) (.ref p) (.lst os)
  | tup {p : Addr} {vs : List V} {fp : List Addr} {os : List OD} : H p = some (.tup vs) → vs.length ≤ sizeLine → Owns K F H fp vs os → Own K F H (p :: fp) (.ref p) (.tup os)
inductive Owns (K : PySem.W.Frag) (F H : Hp) : List Addr → List V → List OD → Prop
  | nil : Owns K F H [] [] []
  | cons {fp fq : List Addr} {v : V} {vs : List V} {o : OD} {os : List OD} : Own K F H fp v o → Owns K F H fq vs os → Owns K F H (fp ++ fq) (v :: vs) (o :: os)
end
mutual
theorem Own.mono {K : PySem.W.Frag} {F H F' H' : Hp} (e : Same F F') : ∀ {o : OD} {fp : List Addr} {v : V}, Own K F H fp v o → (∀ p ∈ fp, H' p = H p) → Own K F' H' fp v o
  | _, _, _, .frz h, _ => .frz (h.mono e)
  | _, _, _, .lst h l r, k => .lst ((k _ List.mem_cons_self).trans h) l (Owns.mono e r fun p hp => k p (List.mem_cons_of_mem _ hp))
  | _, _, _, .tup h l r, k => .tup ((k _ List.mem_cons_self).trans h) l (Owns.mono e r fun p hp => k p (List.mem_cons_of_mem _ hp))
theorem Owns.mono {K : PySem.W.Frag} {F H F' H' : Hp} (e : Same F F') : ∀ {os : List OD} {fp : List Addr} {vs : List V}, Owns K F H fp vs os → (∀ p ∈ fp, H' p = H p) → Owns K F' H' fp vs os
  | _, _, _, .nil, _ => .nil
  | _, _, _, .cons h r, k => .cons (Own.mono e h fun p hp => k p (List.mem_append_left _ hp)) (Owns.mono e r fun p hp => k p (List.mem_append_right _ hp))
end
mutual
/-- what is owned becomes read-only -/
theorem Own.froze {K : PySem.W.Frag} {F H F' : Hp} (e : Same F F') : ∀ {o : OD} {fp : List Addr} {v : V}, Own K F H fp v o → (∀ p ∈ fp, F' p = H p) → Rep K F' v o.er
  | _, _, _, .frz h, _ => h.mono e
  | _, _, _, .lst h l r, k => by
    rw [OD.er]
    exact .lst ((k _ List.mem_cons_self).trans h) l (Owns.froze e r fun p hp => k p (List.mem_cons_of_mem _ hp))
  | _, _, _, .tup h l r, k => by
    rw [OD.er]
    exact .tup (.inl (.inl ((k _ List.mem_cons_self).trans h))) l (Owns.froze e r fun p hp => k p (List.mem_cons_of_mem _ hp))
theorem Owns.froze {K : PySem.W.Frag} {F H F' : Hp} (e : Same F F') : ∀ {os : List OD} {fp : List Addr} {vs : List V}, Owns K F H fp vs os → (∀ p ∈ fp, F' p = H p) → Reps K F' vs (OD.ers os)
  | _, _, _, .nil, _ => .nil
  | _, _, _, .cons h r, k => .cons (Own.froze e h fun p hp => k p (List.mem_append_left _ hp)) (Owns.froze e r fun p hp => k p (List.mem_append_right _ hp))
end
mutual
/-- what holds no read-only list is independent of what is read-only -/
theorem Own.of_closed {K : PySem.W.Frag} {F F' H : Hp} : ∀ {o : OD} {fp : List Addr} {v : V}, o.closed = true → Own K F H fp v o → Own K F' H fp v o
  | .frz d, _, _, c, .frz h => .frz (h.of_scalar (by simpa [OD.closed] using c))
  | .lst os, _, _, c, .lst h l r => .lst h l (Owns.of_closed (by simpa [OD.closed] using c) r)
  | .tup os, _, _, c, .tup h l r => .tup h l (Owns.of_closed (by simpa [OD.closed] using c) r)
theorem Owns.of_closed {K : PySem.W.Frag} {F F' H : Hp} : ∀ {os : List OD} {fp : List Addr} {vs : List V}, OD.closeds os = true → Owns K F H fp vs os → Owns K F' H fp vs os
  | _, _, _, _, .nil => .nil
  | _ :: _, _, _, c, .cons h r => by
    simp only [OD.closeds, Bool.and_eq_true] at c
    exact .cons (Own.of_closed c.1 h) (Owns.of_closed c.2 r)
end
mutual
theorem Own.there {K : PySem.W.Frag} {F H : Hp} : ∀ {o : OD} {fp : List Addr} {v : V}, Own K F H fp v o → ∀ p ∈ fp, ∃ u, H p = some u
  | _, _, _, .frz _, p, hp => by simp at hp
  | _, _, _, .lst h _ r, p, hp => by
    rcases List.mem_cons.mp hp with e | hp
    · exact ⟨_, e ▸ h⟩
    · exact Owns.there r p hp
  | _, _, _, .tup h _ r, p, hp => by
    rcases List.mem_cons.mp hp with e | hp
    · exact ⟨_, e ▸ h⟩
    · exact Owns.there r p hp
theorem Owns.there {K : PySem.W.Frag} {F H : Hp} : ∀ {os : List OD} {fp : List Addr} {vs : List V}, Owns K F H fp vs os → ∀ p ∈ fp, ∃ u, H p = some u
  | _, _, _, .nil, p, hp => by simp at hp
  | _, _, _, .cons h r, p, hp => by
    rcases List.mem_append.mp hp with hp | hp
    · exact Own.there h p hp
    · exact Owns.there r p hp
end
theorem Owns.length {K : PySem.W.Frag} {F H : Hp} : ∀ {os : List OD} {fp : List Addr} {vs : List V}, Owns K F H fp vs os → vs.length = os.length
  | _, _, _, .nil => rfl
  | _, _, _, .cons _ r => by rw [List.length_cons, List.length_cons, Owns.length r]
theorem Owns.frzs {K : PySem.W.Frag} {F H : Hp} : ∀ {ds : List D} {vs : List V}, Reps K F vs ds → Owns K F H [] vs (ds.map .frz)
  | _, _, .nil => .nil
  | _, _, .cons h r => Owns.cons (fp := []) (fq := []) (.frz h) (Owns.frzs r)
theorem Owns.append {K : PySem.W.Frag} {F H : Hp} : ∀ {os qs : List OD} {fp fq : List Addr} {vs ws : List V}, Owns K F H fp vs os → Owns K F H fq ws qs → Owns K F H (fp ++ fq) (vs ++ ws) (os ++ qs)
  | _, _, _, _, _, _, .nil, s => s
  | _, _, _, _, _, _, .cons h r, s => by rw [List.append_assoc]; exact .cons h (Owns.append r s)

/-! ### growth -/
structure Grow (F H F' H' : Hp) : Prop where
  ff : Same F F'
  hh : Same H H'
  new : ∀ a o, F' a = some o → F a = some o ∨ H a = none
theorem Grow.refl {F H : Hp} : Grow F H F H := ⟨Same.refl _, Same.refl _, fun _ _ h => .inl h⟩
theorem Grow.trans {F H F1 H1 F2 H2 : Hp} (a : Grow F H F1 H1) (b : Grow F1 H1 F2 H2) : Grow F H F2 H2 :=
  ⟨a.ff.trans b.ff, a.hh.trans b.hh, fun x o h => by
    rcases b.new x o h with h | h
    · exact a.new x o h
    · exact .inr (a.hh.free h)⟩
theorem upd_grow {F H : Hp} (hs : Same F H) {p : Addr} {o : HO} (h : H p = none) : Grow F H (upd F p o) (upd H p o) ∧ Same (upd F p o) (upd H p o) := by
  have hf : F p = none := hs.free h
  refine ⟨⟨fun a u e => by rw [upd_ne (ne_of_none e hf)]; exact e, fun a u e => by rw [upd_ne (ne_of_none e h)]; exact e, fun a u e => ?_⟩, fun a u e => ?_⟩
  · by_cases ha : a = p
    · subst ha; exact .inr h
    · rw [upd_ne ha] at e; exact .inl e
  · by_cases ha : a = p
    · subst ha; rw [upd_same] at e ⊢; exact e
    · rw [upd_ne ha] at e ⊢; exact hs a u e
theorem new_grow {F H : Hp} (hs : Same F H) {p : Addr} {o : HO} (h : H p = none) : Grow F H F (upd H p o) ∧ Same F (upd H p o) :=
  ⟨⟨Same.refl _, fun a u e => by rw [upd_ne (ne_of_none e h)]; exact e, fun _ _ e => .inl e⟩, fun a u e => by rw [upd_ne (ne_of_none (hs a u e) h)]; exact hs a u e⟩
/-- what an expression comes to -/
structure Res (K : PySem.W.Frag) (F H F' H' : Hp) (fp : List Addr) (v : V) (o : OD) : Prop where
  grow : Grow F H F' H'
  same : Same F' H'
  own : Own K F' H' fp v o
  nd : fp.Nodup
  new : ∀ p ∈ fp, F' p = none ∧ H p = none
theorem Res.frz {K : PySem.W.Frag} {F H F' H' : Hp} {v : V} {d : D} (g : Grow F H F' H') (s : Same F' H') (r : Rep K F' v d) : Res K F H F' H' [] v (.frz d) :=
  ⟨g, s, .frz r, List.nodup_nil, fun p hp => by simp at hp⟩
/-- F with what stands at some addresses -/
def ext (F H : Hp) (S : Addr → Prop) [DecidablePred S] : Hp := fun a => if S a then H a else F a
theorem ext_same {F H : Hp} {S : Addr → Prop} [DecidablePred S] (hs : Same F H) : Same (ext F H S) H := fun a o e => by
  unfold ext at e
  split at e
  · exact e
  · exact hs a o e
theorem ext_ff {F H : Hp} {S : Addr → Prop} [DecidablePred S] (hf : ∀ p, S p → F p = none) : Same F (ext F H S) := fun a o e => by
  unfold ext
  split
  · rename_i h; rw [hf a h] at e; cases e
  · exact e
theorem Res.froze {K : PySem.W.Frag} {F H F' H' : Hp} {fp : List Addr} {v : V} {o : OD} (r : Res K F H F' H' fp v o) : ∃ F'', Grow F H F'' H' ∧ Same F'' H' ∧ Rep K F'' v o.er := by
  have e : Same F' (ext F' H' (· ∈ fp)) := ext_ff fun p hp => (r.new p hp).1
  refine ⟨ext F' H' (· ∈ fp), ⟨r.grow.ff.trans e, r.grow.hh, fun a u h => ?_⟩, ext_same r.same, r.own.froze e fun p hp => ?_⟩
  · unfold ext at h
    split at h
    · rename_i hp; exact .inr (r.new a hp).2
    · exact r.grow.new a u h
  · unfold ext; rw [if_pos hp]
theorem Res.pre {K : PySem.W.Frag} {F H F1 H1 F2 H2 : Hp} {fp : List Addr} {v : V} {o : OD} (g : Grow F H F1 H1) (r : Res K F1 H1 F2 H2 fp v o) : Res K F H F2 H2 fp v o :=
  ⟨g.trans r.grow, r.same, r.own, r.nd, fun p hp => ⟨(r.new p hp).1, g.hh.free (r.new p hp).2⟩⟩
end Z
/-! Expressions: each construct by its value at the data level. -/
namespace Z
open PySem L2

def EnvR (K : PySem.W.Frag) (F : Hp) (σ : L2.St) (e : Ev) : Prop := σ.length = e.length ∧ ∀ i d, rd e i = some d → ∃ v, σ[i]? = some (some v) ∧ Rep K F v d
theorem EnvR.mono {K : PySem.W.Frag} {F F' : Hp} {σ : L2.St} {e : Ev} (s : Same F F') (h : EnvR K F σ e) : EnvR K F' σ e :=
  ⟨h.1, fun i d q => let ⟨v, a, b⟩ := h.2 i d q; ⟨v, a, b.mono s⟩⟩
/-- what is read lies in vs -/
def Cong {α : Type} (f : Ev → α) (vs : List Nat) : Prop := ∀ e e' : Ev, e.length = e'.length → (∀ j ∈ vs, rd e j = rd e' j) → f e = f e'
theorem Cong.d {f : EX} {vs : List Nat} (h : Cong f vs) : Cong f.d vs := fun e e' hl k => by unfold EX.d; rw [h e e' hl k]
theorem Cong.left {α : Type} {f : Ev → α} {vs ws : List Nat} (h : Cong f vs) : Cong f (vs ++ ws) := fun e e' hl k => h e e' hl fun j hj => k j (List.mem_append_left _ hj)
theorem Cong.right {α : Type} {f : Ev → α} {vs ws : List Nat} (h : Cong f ws) : Cong f (vs ++ ws) := fun e e' hl k => h e e' hl fun j hj => k j (List.mem_append_right _ hj)

structure SemE (K : PySem.W.Frag) (t : TE) (f : EX) (vs : List Nat) : Prop where
  cong : Cong f vs
  run : ∀ (F H : Hp) (σ : L2.St) (e : Ev), Same F H → EnvR K F σ e → ∀ o, f e = some o → ∀ Q : VK, (∀ F' H' fp v, Res K F H F' H' fp v o → Q v H') → t σ H Q
structure SE (X : Cx) (e : Expr) (t : TE) (f : EX) (vs : List Nat) : Prop where
  pe : PE X e t
  sem : SemE X.K t f vs
theorem EX.d_some {f : EX} {e : Ev} {d : D} (h : f.d e = some d) : ∃ o, f e = some o ∧ o.er = d := by
  unfold EX.d at h
  rw [Option.map_eq_some_iff] at h
  exact h
section
variable {K : PySem.W.Frag} {t : TE} {f : EX} {vs : List Nat}
theorem SemE.runD (h : SemE K t f vs) {F H : Hp} {σ : L2.St} {e : Ev} (hs : Same F H) (he : EnvR K F σ e) {d : D} (hd : f.d e = some d) {Q : VK} (q : ∀ F' H' v, Grow F H F' H' → Same F' H' → Rep K F' v d → Q v H') : t σ H Q := by
  obtain ⟨o, ho, rfl⟩ := EX.d_some hd
  refine h.run F H σ e hs he o ho Q fun F' H' fp v r => ?_
  obtain ⟨F'', g, s, rp⟩ := r.froze
  exact q F'' H' v g s rp
end
/-- by the erased value alone, the result plain or read-only -/
theorem SemE.of_d {K : PySem.W.Frag} {t : TE} {f : EX} {vs : List Nat} (hc : Cong f vs) (hf : ∀ e o, f e = some o → ∃ d, o = .frz d)
    (h : ∀ (F H : Hp) (σ : L2.St) (e : Ev), Same F H → EnvR K F σ e → ∀ d, f e = some (.frz d) → ∀ Q : VK, (∀ F' H' v, Grow F H F' H' → Same F' H' → Rep K F' v d → Q v H') → t σ H Q) : SemE K t f vs :=
  ⟨hc, fun F H σ e hs he o ho Q q => by
    obtain ⟨d, rfl⟩ := hf e o ho
    exact h F H σ e hs he d ho Q fun F' H' v g s r => q F' H' [] v (.frz g s r)⟩

section
variable {X : Cx} {pos : Pos}
/-! ### names, constants -/
theorem sem_var {K : PySem.W.Frag} (i : Nat) : SemE K (tVar i) (eVar i) [i] :=
  ⟨fun e e' _ k => by unfold eVar; rw [k i (by simp)], fun F H σ e hs he o ho Q q => by
    unfold eVar at ho
    rw [Option.map_eq_some_iff] at ho
    obtain ⟨d, hd, rfl⟩ := ho
    obtain ⟨v, hv, r⟩ := he.2 i d hd
    exact ⟨v, hv, q F H [] v (.frz .refl hs r)⟩⟩
theorem se_var (i : Nat) {x : Str} (hN : X.N[i]? = some x := by rfl) (hv : Vis X.env.scope x := by first | exact Or.inl rfl | exact Or.inr (Or.inl rfl) | exact Or.inr (Or.inr rfl)) (hd : (x == ("__debug__" : Str)) = false := by decide)
    (hcd : (x == ("__classdict__" : Str)) = false := by decide) : SE X (.Name x pos) (tVar i) (eVar i) [i] := ⟨pe_var hN hv hd hcd, sem_var i⟩
theorem sem_c {K : PySem.W.Frag} {v : V} {d : D} (h : ∀ F, Rep K F v d) : SemE K (tC v) (eC d) [] :=
  ⟨fun _ _ _ _ => rfl, fun F H σ e hs he o ho Q q => by cases ho; exact q F H [] v (.frz .refl hs (h F))⟩
theorem se_int {i : Int} {j} : SE X (.Constant (.int i) j pos) (tC (.int i)) (eC (.int i)) [] := ⟨pe_int, sem_c fun _ => .int i⟩
theorem se_bl {b : Bool} {j} : SE X (.Constant (.bool b) j pos) (tC (.bl b)) (eC (.bl b)) [] := ⟨pe_bl, sem_c fun _ => .bl b⟩
theorem se_non {j} : SE X (.Constant .none j pos) (tC .non) (eC .non) [] := ⟨pe_non, sem_c fun _ => .non⟩
theorem se_str {x : Str} {j} : SE X (.Constant (.str x) j pos) (tC (.str x)) (eC (.str x)) [] := ⟨pe_str, sem_c fun _ => .str x⟩
/-- a constant of the module -/
theorem se_glob {x : Str} {v : V} {u : Value} {d : D} (hm : X.mg x = some u) (r : RelV v u) (hd : ∀ F, Rep X.K F v d) (hg : Gl X x := by rfl) (hdb : (x == ("__debug__" : Str)) = false := by decide) : SE X (.Name x pos) (tC v) (eC d) [] :=
  ⟨pe_glob hg hm r hdb, sem_c hd⟩

/-! ### operators -/
def RSem (K : PySem.W.Frag) (r : R2) (op : D → D → Option OD) : Prop := ∀ (F H : Hp) (x y : V) (dx dy : D) (o : OD), Same F H → Rep K F x dx → Rep K F y dy → op dx dy = some o → ∀ Q : VK, (∀ F' H' fp v, Res K F H F' H' fp v o → Q v H') → r x y H Q
structure BinR (X : Cx) (f : Value → Value → Sem Value) (r : R2) (dop : D → D → Option OD) : Prop where
  opr : OpR X f r
  sem : RSem X.K r dop
theorem BinR.or {f : Value → Value → Sem Value} {r r' : R2} {op op' op'' : D → D → Option OD} (a : BinR X f r op) (b : BinR X f r' op') (h : ∀ x y o, op'' x y = some o → op x y = some o ∨ op' x y = some o) : BinR X f (fun x y H Q => r x y H Q ∨ r' x y H Q) op'' :=
  ⟨a.opr.or b.opr, fun F H x y dx dy o hs rx ry ho Q q => by
    rcases h dx dy o ho with h | h
    · exact .inl (a.sem F H x y dx dy o hs rx ry h Q q)
    · exact .inr (b.sem F H x y dx dy o hs rx ry h Q q)⟩
theorem sem_op {K : PySem.W.Frag} {ta tb : TE} {fa fb : EX} {va vb : List Nat} {r : R2} {op : D → D → Option OD} (ha : SemE K ta fa va) (hb : SemE K tb fb vb) (hr : RSem K r op) : SemE K (tOp r ta tb) (eOp op fa fb) (va ++ vb) :=
  ⟨fun e e' hl k => by unfold eOp; rw [ha.cong.d.left e e' hl k, hb.cong.d.right e e' hl k], fun F H σ e hs he o ho Q q => by
    unfold eOp at ho
    rw [Option.bind_eq_some_iff] at ho
    obtain ⟨dx, h1, ho⟩ := ho
    rw [Option.bind_eq_some_iff] at ho
    obtain ⟨dy, h2, ho⟩ := ho
    refine ha.runD hs he h1 fun F1 H1 x g1 s1 rx => ?_
    refine hb.runD s1 (he.mono g1.ff) h2 fun F2 H2 y g2 s2 ry => ?_
    exact hr F2 H2 x y dx dy o s2 (rx.mono g2.ff) ry ho Q fun F' H' fp v rs => q F' H' fp v (rs.pre (g1.trans g2))⟩
theorem se_op {a b : Expr} {op : Operator} {ta tb : TE} {fa fb : EX} {va vb : List Nat} {r : R2} {dop : D → D → Option OD} (ho : BinR X (binaryOp op) r dop) (ha : SE X a ta fa va) (hb : SE X b tb fb vb) :
    SE X (.BinOp a op b pos) (tOp r ta tb) (eOp dop fa fb) (va ++ vb) := ⟨pe_op ho.opr ha.pe hb.pe, sem_op ha.sem hb.sem ho.sem⟩
theorem se_cmp {a b : Expr} {op : CmpOp} {ta tb : TE} {fa fb : EX} {va vb : List Nat} {r : R2} {dop : D → D → Option OD} (ho : BinR X (compareOp op) r dop) (ha : SE X a ta fa va) (hb : SE X b tb fb vb) (hm : behindInMarks op b = false := by exact nomark _) :
    SE X (.Compare a [op] [b] pos) (tOp r ta tb) (eOp dop fa fb) (va ++ vb) := ⟨pe_cmpR ho.opr ha.pe hb.pe hm, sem_op ha.sem hb.sem ho.sem⟩
theorem res_int {K : PySem.W.Frag} {F H : Hp} (hs : Same F H) (i : Int) : Res K F H F H [] (.int i) (fI i) := .frz .refl hs (.int i)
theorem res_bl {K : PySem.W.Frag} {F H : Hp} (hs : Same F H) (b : Bool) : Res K F H F H [] (.bl b) (fB b) := .frz .refl hs (.bl b)
theorem res_str {K : PySem.W.Frag} {F H : Hp} (hs : Same F H) (x : Str) : Res K F H F H [] (.str x) (.frz (.str x)) := .frz .refl hs (.str x)
/-- a new list of read-only things -/
theorem res_new {K : PySem.W.Frag} {F H : Hp} (hs : Same F H) {vs : List V} {ds : List D} (h : Reps K F vs ds) (hl : vs.length ≤ sizeLine) {p : Addr} (hp : H p = none) : Res K F H F (upd H p (.lst vs)) [p] (.ref p) (.lst (ds.map .frz)) where
  grow := (new_grow hs hp).1
  same := (new_grow hs hp).2
  own := .lst (fp := []) upd_same hl (Owns.frzs h)
  nd := by simp
  new := fun q hq => by
    simp only [List.mem_singleton] at hq
    subst hq
    exact ⟨hs.free hp, hp⟩
def opAddS : D → D → Option OD
  | .str x, .str y => if x.length + y.length ≤ sz then some (.frz (.str (x ++ y))) else none
  | _, _ => none
def opAddI : D → D → Option OD
  | .int i, .int j => some (fI (i + j))
  | _, _ => none
def opAddL : D → D → Option OD
  | .lst xs, .lst ys => if xs.length + ys.length ≤ sz then some (.lst (xs.map .frz ++ ys.map .frz)) else none
  | _, _ => none
theorem sz_eq : sz = sizeLine := by decide
theorem binI {f : Value → Value → Sem Value} {C : Int → Int → Bool} {g : Int → Int → Int} {op : D → D → Option OD}
    (rule : ∀ (i j : Int) (t u : Tok) (s : Shared) (Q : Value → Shared → Prop) (E : Value → Shared → Prop), C i j = true → Q (.int (g i j) s.toks) { s with toks := s.toks + 1 } → wpAny (model X.prog X.w) X.A (f (.int i t) (.int j u)) Q E s)
    (h : ∀ x y o, op x y = some o → ∃ i j, x = .int i ∧ y = .int j ∧ C i j = true ∧ o = fI (g i j)) : BinR X f (rI (fun i j => C i j = true) fun i j => .int (g i j)) op :=
  ⟨opI rule, fun F H x y dx dy o hs rx ry ho Q q => by
    obtain ⟨i, j, rfl, rfl, c, rfl⟩ := h dx dy o ho
    cases rx
    cases ry
    exact ⟨i, j, rfl, rfl, c, q F H [] _ (res_int hs _)⟩⟩
theorem binB {f : Value → Value → Sem Value} {g : Int → Int → Bool} {op : D → D → Option OD}
    (ho : OpR X f (rI0 fun i j => .bl (g i j)))
    (h : ∀ x y o, op x y = some o → ∃ i j, x = .int i ∧ y = .int j ∧ o = fB (g i j)) : BinR X f (rI0 fun i j => .bl (g i j)) op :=
  ⟨ho, fun F H x y dx dy o hs rx ry ho Q q => by
    obtain ⟨i, j, rfl, rfl, rfl⟩ := h dx dy o ho
    cases rx
    cases ry
    exact ⟨i, j, rfl, rfl, q F H [] _ (res_bl hs _)⟩⟩
theorem z_addI : BinR X (binaryOp .Add) (rI (fun _ _ => true = true) fun i j => .int (i + j)) opAddI := binI (C := fun _ _ => true) (fun _ _ _ _ _ _ _ _ q => PyProof.Rows.add_int q) fun x y o h => by
  cases x <;> cases y <;> simp only [opAddI, reduceCtorEq] at h
  exact ⟨_, _, rfl, rfl, rfl, (Option.some.inj h).symm⟩
theorem z_sub : BinR X (binaryOp .Sub) (rI (fun _ _ => true = true) fun i j => .int (i - j)) opSub := binI (C := fun _ _ => true) (fun _ _ _ _ _ _ _ _ q => PyProof.Rows.sub_int q) fun x y o h => by
  cases x <;> cases y <;> simp only [opSub, reduceCtorEq] at h
  exact ⟨_, _, rfl, rfl, rfl, (Option.some.inj h).symm⟩
theorem mulOk_ok {i j : Int} (h : mulOk i j = true) : PySem.IntMulOk i j := by
  have h' : i.natAbs.log2 + j.natAbs.log2 < 134217000 := by simpa [mulOk] using h
  have b : ∀ x : Int, Builtin.Int.intBits x ≤ x.natAbs.log2 + 1 := fun x => by
    unfold Builtin.Int.intBits
    split <;> omega
  have h1 := b i
  have h2 := b j
  have e : bitsLine = 134217728 := by decide
  unfold PySem.IntMulOk
  intro z
  rw [Bool.and_eq_true] at z
  have z2 := z.2
  unfold Builtin.Int.intTooBig at z2
  have z3 := of_decide_eq_true z2
  rw [e] at z3
  omega
theorem z_mul : BinR X (binaryOp .Mult) (rI (fun i j => mulOk i j = true) fun i j => .int (i * j)) opMul := binI (fun _ _ _ _ _ _ _ c q => PyProof.Rows.mul_int q (mulOk_ok c)) fun x y o h => by
  cases x <;> cases y <;> simp only [opMul, reduceCtorEq] at h
  split at h
  · rename_i c; exact ⟨_, _, rfl, rfl, c, (Option.some.inj h).symm⟩
  · cases h
/-- where a division of huge numbers is covered -/
structure SeerF (P : Program) (base : Heap) (A : Around) (stack : List Env) : Prop where
  tree : P.given.tree = none
  ns : base.NoSeer
  room : A.depth + 100 < recursionLimit
  top : ∃ e l, stack = e :: l ∧ e.scope.isGenerator = false ∧ e.scope.isCoroutine = false ∧ e.builtins = builtinsNs ∧ e.globals = mainGlobals
theorem SeerF.pylong (S : SeerF X.prog X.base X.A X.stack) {pins : List (Addr × Obj)} {σ : L2.St} {H : Hp} {s : Shared} (I : Inv X pins σ H s) : PylongRoom (model X.prog X.w) X.A s := by
  obtain ⟨e, l, h1, h2, h3, h4, h5⟩ := S.top
  exact PylongRoom.of I.nolimit S.room (SeerAt.of (S.ns.keeps I.bk) S.tree (I.ok.frames.trans (congrArg some h1)) h2 h3 h4 h5)
theorem z_fdiv (S : SeerF X.prog X.base X.A X.stack) : BinR X (binaryOp .FloorDiv) (rI (fun _ j => (!decide (j = 0)) = true) fun i j => .int (i.fdiv j)) opFdiv :=
  ⟨fun pins s σ H x y v u Q I rx ry h => by
    obtain ⟨i, j, rfl, rfl, c, q⟩ := h
    obtain ⟨t, rfl⟩ := rx
    obtain ⟨t', rfl⟩ := ry
    have c' : ¬ j = 0 := by simpa using c
    exact PyProof.Rows.floordiv_int c' ⟨.int (i.fdiv j), H, I.tok _, ⟨_, rfl⟩, q⟩ (.inr (S.pylong I)), fun F H x y dx dy o hs rx ry ho Q q => by
    cases dx <;> cases dy <;> simp only [opFdiv, reduceCtorEq] at ho
    split at ho
    · cases ho
    · rename_i c
      cases ho
      cases rx
      cases ry
      exact ⟨_, _, rfl, rfl, by simpa using c, q F H [] _ (res_int hs _)⟩⟩
theorem z_mod : BinR X (binaryOp .Mod) (rI (fun _ j => (!decide (j = 0)) = true) fun i j => .int (i.fmod j)) opMod := binI (C := fun _ j => !decide (j = 0)) (fun _ _ _ _ _ _ _ c q => PyProof.Rows.mod_int' (by simpa using c) q) fun x y o h => by
  cases x <;> cases y <;> simp only [opMod, reduceCtorEq] at h
  split at h
  · cases h
  · rename_i c; exact ⟨_, _, rfl, rfl, by simpa using c, (Option.some.inj h).symm⟩
theorem z_pow : BinR X (binaryOp .Pow) (rI (fun i j => decide (0 ≤ j ∧ j ≤ 1000000 ∧ i.natAbs < 2 ^ 64) = true) fun i j => .int (i ^ j.toNat)) opPow := binI (C := fun i j => decide (0 ≤ j ∧ j ≤ 1000000 ∧ i.natAbs < 2 ^ 64)) (fun i j _ _ _ _ _ c q => by
    have c' : 0 ≤ j ∧ j ≤ 1000000 ∧ i.natAbs < 2 ^ 64 := of_decide_eq_true c
    exact PyProof.Rows.pow_int_small c'.1 c'.2.1 c'.2.2 q) fun x y o h => by
  cases x <;> cases y <;> simp only [opPow, reduceCtorEq] at h
  split at h
  · rename_i c; exact ⟨_, _, rfl, rfl, decide_eq_true c, (Option.some.inj h).symm⟩
  · cases h
theorem z_lt : BinR X (compareOp .Lt) (rI0 fun i j => .bl (decide (i < j))) opLt := binB op_lt fun x y o h => by
  cases x <;> cases y <;> simp only [opLt, reduceCtorEq] at h
  exact ⟨_, _, rfl, rfl, (Option.some.inj h).symm⟩
theorem z_le : BinR X (compareOp .LtE) (rI0 fun i j => .bl (decide (i ≤ j))) opLe := binB op_le fun x y o h => by
  cases x <;> cases y <;> simp only [opLe, reduceCtorEq] at h
  exact ⟨_, _, rfl, rfl, (Option.some.inj h).symm⟩
theorem z_gt : BinR X (compareOp .Gt) (rI0 fun i j => .bl (decide (j < i))) opGt := binB op_gt fun x y o h => by
  cases x <;> cases y <;> simp only [opGt, reduceCtorEq] at h
  exact ⟨_, _, rfl, rfl, (Option.some.inj h).symm⟩
theorem z_ge : BinR X (compareOp .GtE) (rI0 fun i j => .bl (decide (j ≤ i))) opGe := binB op_ge fun x y o h => by
  cases x <;> cases y <;> simp only [opGe, reduceCtorEq] at h
  exact ⟨_, _, rfl, rfl, (Option.some.inj h).symm⟩
theorem z_addS : BinR X (binaryOp .Add) (fun x y H Q => ∃ i j, x = .str i ∧ y = .str j ∧ i.length + j.length ≤ sizeLine ∧ Q (.str (i ++ j)) H) opAddS :=
  ⟨op_add_str, fun F H x y dx dy o hs rx ry ho Q q => by
    unfold opAddS at ho
    split at ho
    · split at ho
      · rename_i c
        cases ho
        cases rx
        cases ry
        exact ⟨_, _, rfl, rfl, by rw [← sz_eq]; exact c, q F H [] _ (res_str hs _)⟩
      · cases ho
    · cases ho⟩
theorem z_addL : BinR X (binaryOp .Add) rCat opAddL :=
  ⟨op_cat, fun F H x y dx dy o hs rx ry ho Q q => by
    unfold opAddL at ho
    split at ho
    · split at ho
      · rename_i c
        cases ho
        cases rx with
        | @lst a1 vs1 _ h1 l1 r1 =>
          cases ry with
          | @lst a2 vs2 _ h2 l2 r2 =>
            have hl : vs1.length + vs2.length ≤ sizeLine := by
              rw [sz_eq, ← r1.length, ← r2.length] at c; exact c
            refine ⟨_, _, _, _, rfl, rfl, hs _ _ h1, hs _ _ h2, hl, fun p hp => q F _ [p] _ ?_⟩
            have := res_new (K := X.K) hs (r1.append r2) (by rw [List.length_append]; exact hl) hp
            rw [List.map_append] at this
            exact this
      · cases ho
    · cases ho⟩
theorem z_add : BinR X (binaryOp .Add) (fun x y H Q => (rI (fun _ _ => true = true) (fun i j => .int (i + j)) x y H Q ∨ ∃ i j, x = .str i ∧ y = .str j ∧ i.length + j.length ≤ sizeLine ∧ Q (.str (i ++ j)) H) ∨ rCat x y H Q) opAdd :=
  (z_addI.or (op'' := fun x y => (opAddI x y).or (opAddS x y)) z_addS fun x y o h => by
    cases e : opAddI x y with
    | none => rw [e] at h; exact .inr h
    | some z => rw [e] at h; exact .inl h).or z_addL fun x y o h => by
    cases x <;> cases y <;> simp only [opAdd, reduceCtorEq] at h
    · exact .inl h
    · exact .inl h
    · exact .inr h
theorem z_eq {K : PySem.W.Frag} (hu : X.A.units + 64 < cLine) (hK : X.K = K := by rfl) : BinR X (compareOp .Eq) (rEqD K) opEq := by
  subst hK
  exact ⟨op_eqD hu, fun F H x y dx dy o hs rx ry ho Q q => by
    unfold opEq at ho
    split at ho
    · rename_i c
      rw [Bool.and_eq_true] at c
      cases ho
      refine ⟨toPy dx, toPy dy, dp_of c.1 (rx.mono hs), dp_of c.2 (ry.mono hs), shaped_of (by decide) c.1, shaped_of (by decide) c.2, ?_⟩
      rw [eqv_of dx dy 60 60 c.1 c.2]
      exact q F H [] _ (res_bl hs _)
    · cases ho⟩
theorem z_ne {K : PySem.W.Frag} (hu : X.A.units + 64 < cLine) (hK : X.K = K := by rfl) : BinR X (compareOp .NotEq) (rNeD K) opNe := by
  subst hK
  exact ⟨op_neD hu, fun F H x y dx dy o hs rx ry ho Q q => by
    unfold opNe at ho
    split at ho
    · rename_i c
      rw [Bool.and_eq_true] at c
      cases ho
      refine ⟨toPy dx, toPy dy, dp_of c.1 (rx.mono hs), dp_of c.2 (ry.mono hs), shaped_of (by decide) c.1, shaped_of (by decide) c.2, ?_⟩
      rw [eqv_of dx dy 60 60 c.1 c.2]
      exact q F H [] _ (res_bl hs _)
    · cases ho⟩
/-- -a -/
theorem se_neg {a : Expr} {ta : TE} {fa : EX} {va : List Nat} (ha : SE X a ta fa va) : SE X (.UnaryOp .USub a pos) (tUn (rU fun i => .int (-i)) ta) (eUn opNeg fa) va :=
  ⟨pe_un un_neg ha.pe, fun e e' hl k => by unfold eUn; rw [ha.sem.cong.d e e' hl k], fun F H σ e hs he o ho Q q => by
    unfold eUn at ho
    rw [Option.bind_eq_some_iff] at ho
    obtain ⟨dx, h1, ho⟩ := ho
    refine ha.sem.runD hs he h1 fun F1 H1 x g1 s1 rx => ?_
    cases dx <;> simp only [opNeg, reduceCtorEq] at ho
    cases ho
    cases rx
    exact ⟨_, rfl, q _ _ [] _ ((res_int s1 _).pre g1)⟩⟩

/-! ### tests -/
structure SemT (K : PySem.W.Frag) (t : TT) (f : TX) (vs : List Nat) : Prop where
  cong : Cong f vs
  run : ∀ (F H : Hp) (σ : L2.St) (e : Ev), Same F H → EnvR K F σ e → ∀ b, f e = some b → ∀ Q : Bool → Hp → Prop, (∀ F' H', Grow F H F' H' → Same F' H' → Q b H') → t σ H Q
structure ST (X : Cx) (e : Expr) (t : TT) (f : TX) (vs : List Nat) : Prop where
  pt : PT X e t
  sem : SemT X.K t f vs
structure SW (X : Cx) (e : Expr) (t : TT) (f : TX) (vs : List Nat) : Prop where
  pw : PW X e t
  sem : SemT X.K t f vs
theorem SW.st {e : Expr} {t : TT} {f : TX} {vs : List Nat} (h : SW X e t f vs) : ST X e t f vs := ⟨h.pw.pt, h.sem⟩
theorem asB_some {d : D} {b : Bool} (h : D.asB d = some b) : d = .bl b := by
  cases d <;> simp only [D.asB, reduceCtorEq] at h
  cases h
  rfl
theorem sem_tB {K : PySem.W.Frag} {t : TE} {f : EX} {vs : List Nat} (h : SemE K t f vs) : SemT K (tB t) (tV f) vs :=
  ⟨fun e e' hl k => by unfold tV; rw [h.cong.d e e' hl k], fun F H σ e hs he b hb Q q => by
    unfold tV at hb
    rw [Option.bind_eq_some_iff] at hb
    obtain ⟨d, h1, h2⟩ := hb
    have := asB_some h2
    subst this
    refine h.runD hs he h1 fun F1 H1 x g1 s1 rx => ?_
    cases rx
    exact ⟨b, rfl, q F1 H1 g1 s1⟩⟩
theorem st_val {e : Expr} {t : TE} {f : EX} {vs : List Nat} (h : SE X e t f vs) (he : ∀ whole, isTrue e X.env whole = (do let v ← whole; standAt e.pos; holding [v] (truthy v)) := by intro _; rfl) : ST X e (tB t) (tV f) vs :=
  ⟨pt_val h.pe he, sem_tB h.sem⟩
theorem st_cmp {a b : Expr} {op : CmpOp} {ta tb : TE} {fa fb : EX} {va vb : List Nat} {r : R2} {dop : D → D → Option OD} (ho : BinR X (compareOp op) r dop) (ha : SE X a ta fa va) (hb : SE X b tb fb vb) (hm : behindInMarks op b = false := by exact nomark _) :
    ST X (.Compare a [op] [b] pos) (tTest (tOp r ta tb)) (tV (eOp dop fa fb)) (va ++ vb) := ⟨pt_cmpR ho.opr ha.pe hb.pe hm, sem_tB (sem_op ha.sem hb.sem ho.sem)⟩
theorem sem_tAnd {K : PySem.W.Frag} {t u : TT} {f g : TX} {vs ws : List Nat} (h : SemT K t f vs) (k : SemT K u g ws) : SemT K (L2.tAnd t u) (tAnd f g) (vs ++ ws) :=
  ⟨fun e e' hl q => by unfold tAnd; rw [h.cong.left e e' hl q, k.cong.right e e' hl q], fun F H σ e hs he b hb Q q => by
    unfold tAnd at hb
    rw [Option.bind_eq_some_iff] at hb
    obtain ⟨c, h1, h2⟩ := hb
    refine h.run F H σ e hs he c h1 _ fun F1 H1 g1 s1 => ?_
    cases c with
    | true => exact k.run F1 H1 σ e s1 (he.mono g1.ff) b h2 Q fun F2 H2 g2 s2 => q F2 H2 (g1.trans g2) s2
    | false =>
      cases h2
      exact q F1 H1 g1 s1⟩
theorem sem_tOr {K : PySem.W.Frag} {t u : TT} {f g : TX} {vs ws : List Nat} (h : SemT K t f vs) (k : SemT K u g ws) : SemT K (L2.tOr t u) (tOr f g) (vs ++ ws) :=
  ⟨fun e e' hl q => by unfold tOr; rw [h.cong.left e e' hl q, k.cong.right e e' hl q], fun F H σ e hs he b hb Q q => by
    unfold tOr at hb
    rw [Option.bind_eq_some_iff] at hb
    obtain ⟨c, h1, h2⟩ := hb
    refine h.run F H σ e hs he c h1 _ fun F1 H1 g1 s1 => ?_
    cases c with
    | false => exact k.run F1 H1 σ e s1 (he.mono g1.ff) b h2 Q fun F2 H2 g2 s2 => q F2 H2 (g1.trans g2) s2
    | true =>
      cases h2
      exact q F1 H1 g1 s1⟩
theorem sw_and1 {a : Expr} {t : TT} {f : TX} {vs : List Nat} (h : ST X a t f vs) : SW X (.BoolOp .And [a] pos) t f vs := ⟨pw_and1 h.pt, h.sem⟩
theorem sw_or1 {a : Expr} {t : TT} {f : TX} {vs : List Nat} (h : ST X a t f vs) : SW X (.BoolOp .Or [a] pos) t f vs := ⟨pw_or1 h.pt, h.sem⟩
theorem sw_and {a b : Expr} {rest : List Expr} {t u : TT} {f g : TX} {vs ws : List Nat} (h : ST X a t f vs) (k : SW X (.BoolOp .And (b :: rest) pos) u g ws) : SW X (.BoolOp .And (a :: b :: rest) pos) (L2.tAnd t u) (tAnd f g) (vs ++ ws) :=
  ⟨pw_and h.pt k.pw, sem_tAnd h.sem k.sem⟩
theorem sw_or {a b : Expr} {rest : List Expr} {t u : TT} {f g : TX} {vs ws : List Nat} (h : ST X a t f vs) (k : SW X (.BoolOp .Or (b :: rest) pos) u g ws) : SW X (.BoolOp .Or (a :: b :: rest) pos) (L2.tOr t u) (tOr f g) (vs ++ ws) :=
  ⟨pw_or h.pt k.pw, sem_tOr h.sem k.sem⟩
theorem st_not {a : Expr} {t : TT} {f : TX} {vs : List Nat} (h : ST X a t f vs) : ST X (.UnaryOp .Not a pos) (L2.tNot t) (tNot f) vs :=
  ⟨pt_not h.pt, fun e e' hl q => by unfold tNot; rw [h.sem.cong e e' hl q], fun F H σ e hs he b hb Q q => by
    unfold tNot at hb
    rw [Option.map_eq_some_iff] at hb
    obtain ⟨c, h1, rfl⟩ := hb
    exact h.sem.run F H σ e hs he c h1 _ fun F1 H1 g1 s1 => q F1 H1 g1 s1⟩
/-! .. as values -/
theorem se_one {op} {a : Expr} {t : TE} {f : EX} {vs : List Nat} (h : SE X a t f vs) : SE X (.BoolOp op [a] pos) t f vs := ⟨pe_one h.pe, h.sem⟩
theorem se_and {a b : Expr} {rest : List Expr} {t u : TE} {f g : EX} {vs ws : List Nat} (h : SE X a t f vs) (k : SE X (.BoolOp .And (b :: rest) pos) u g ws) : SE X (.BoolOp .And (a :: b :: rest) pos) (tAndV t u) (eAnd f g) (vs ++ ws) :=
  ⟨pe_and h.pe k.pe, fun e e' hl q => by unfold eAnd; rw [h.sem.cong.d.left e e' hl q, k.sem.cong.right e e' hl q], fun F H σ e hs he o ho Q q => by
    unfold eAnd at ho
    rw [Option.bind_eq_some_iff] at ho
    obtain ⟨c, h1, ho⟩ := ho
    rw [Option.bind_eq_some_iff] at h1
    obtain ⟨d, h1, h2⟩ := h1
    have := asB_some h2
    subst this
    refine h.sem.runD hs he h1 fun F1 H1 x g1 s1 rx => ?_
    cases rx
    refine ⟨c, rfl, ?_⟩
    cases c with
    | true => exact k.sem.run F1 H1 σ e s1 (he.mono g1.ff) o ho Q fun F2 H2 fp v r => q F2 H2 fp v (r.pre g1)
    | false =>
      cases ho
      exact q F1 H1 [] _ ((res_bl s1 false).pre g1)⟩
theorem se_or {a b : Expr} {rest : List Expr} {t u : TE} {f g : EX} {vs ws : List Nat} (h : SE X a t f vs) (k : SE X (.BoolOp .Or (b :: rest) pos) u g ws) : SE X (.BoolOp .Or (a :: b :: rest) pos) (tOrV t u) (eOr f g) (vs ++ ws) :=
  ⟨pe_or h.pe k.pe, fun e e' hl q => by unfold eOr; rw [h.sem.cong.d.left e e' hl q, k.sem.cong.right e e' hl q], fun F H σ e hs he o ho Q q => by
    unfold eOr at ho
    rw [Option.bind_eq_some_iff] at ho
    obtain ⟨c, h1, ho⟩ := ho
    rw [Option.bind_eq_some_iff] at h1
    obtain ⟨d, h1, h2⟩ := h1
    have := asB_some h2
    subst this
    refine h.sem.runD hs he h1 fun F1 H1 x g1 s1 rx => ?_
    cases rx
    refine ⟨c, rfl, ?_⟩
    cases c with
    | false => exact k.sem.run F1 H1 σ e s1 (he.mono g1.ff) o ho Q fun F2 H2 fp v r => q F2 H2 fp v (r.pre g1)
    | true =>
      cases ho
      exact q F1 H1 [] _ ((res_bl s1 true).pre g1)⟩
theorem se_not {a : Expr} {t : TE} {f : EX} {vs : List Nat} (h : SE X a t f vs) : SE X (.UnaryOp .Not a pos) (tNotV t) (eNot f) vs :=
  ⟨pe_not h.pe, fun e e' hl q => by unfold eNot; rw [h.sem.cong.d e e' hl q], fun F H σ e hs he o ho Q q => by
    unfold eNot at ho
    rw [Option.map_eq_some_iff] at ho
    obtain ⟨c, h1, rfl⟩ := ho
    rw [Option.bind_eq_some_iff] at h1
    obtain ⟨d, h1, h2⟩ := h1
    have := asB_some h2
    subst this
    refine h.sem.runD hs he h1 fun F1 H1 x g1 s1 rx => ?_
    cases rx
    exact ⟨c, rfl, q F1 H1 [] _ ((res_bl s1 _).pre g1)⟩⟩
theorem se_if {c a b : Expr} {tc : TT} {ta tb : TE} {fc : TX} {fa fb : EX} {vc va vb : List Nat} (hc : ST X c tc fc vc) (ha : SE X a ta fa va) (hb : SE X b tb fb vb) : SE X (.IfExp c a b pos) (tIf tc ta tb) (eIf fc fa fb) (vc ++ (va ++ vb)) :=
  ⟨pe_ifExp hc.pt ha.pe hb.pe, fun e e' hl q => by unfold eIf; rw [hc.sem.cong.left e e' hl q, (ha.sem.cong.left (ws := vb)).right e e' hl q, (hb.sem.cong.right (vs := va)).right e e' hl q], fun F H σ e hs he o ho Q q => by
    unfold eIf at ho
    rw [Option.bind_eq_some_iff] at ho
    obtain ⟨x, h1, ho⟩ := ho
    refine hc.sem.run F H σ e hs he x h1 _ fun F1 H1 g1 s1 => ?_
    cases x with
    | true => exact ha.sem.run F1 H1 σ e s1 (he.mono g1.ff) o ho Q fun F2 H2 fp v r => q F2 H2 fp v (r.pre g1)
    | false => exact hb.sem.run F1 H1 σ e s1 (he.mono g1.ff) o ho Q fun F2 H2 fp v r => q F2 H2 fp v (r.pre g1)⟩
/-- a < b < c -/
theorem sem_chain {K : PySem.W.Frag} {ta tb tc : TE} {fa fb fc : EX} {va vb vc : List Nat} {r r' : R2} {op op' : D → D → Option OD} (ha : SemE K ta fa va) (hb : SemE K tb fb vb) (hc : SemE K tc fc vc) (hr : RSem K r op) (hr' : RSem K r' op') :
    SemE K (tChain r r' ta tb tc) (eChain op op' fa fb fc) (va ++ (vb ++ vc)) :=
  ⟨fun e e' hl k => by unfold eChain; rw [ha.cong.d.left e e' hl k, (hb.cong.d.left (ws := vc)).right e e' hl k, (hc.cong.d.right (vs := vb)).right e e' hl k], fun F H σ e hs he o ho Q q => by
    unfold eChain at ho
    rw [Option.bind_eq_some_iff] at ho
    obtain ⟨dx, h1, ho⟩ := ho
    rw [Option.bind_eq_some_iff] at ho
    obtain ⟨dy, h2, ho⟩ := ho
    rw [Option.bind_eq_some_iff] at ho
    obtain ⟨oz, h3, ho⟩ := ho
    rw [Option.bind_eq_some_iff] at ho
    obtain ⟨b, h4, ho⟩ := ho
    refine ha.runD hs he h1 fun F1 H1 x g1 s1 rx => ?_
    refine hb.runD s1 (he.mono g1.ff) h2 fun F2 H2 y g2 s2 ry => ?_
    refine hr F2 H2 x y dx dy oz s2 (rx.mono g2.ff) ry h3 _ fun F3 H3 fp z rz => ?_
    obtain ⟨F4, g4, s4, r4⟩ := rz.froze
    have := asB_some h4
    rw [this] at r4
    cases r4
    refine ⟨b, rfl, ?_⟩
    cases b with
    | true =>
      rw [if_pos rfl] at ho
      rw [Option.bind_eq_some_iff] at ho
      obtain ⟨dw, h5, ho⟩ := ho
      refine hc.runD s4 (he.mono (g1.ff.trans (g2.ff.trans g4.ff))) h5 fun F5 H5 w g5 s5 rw' => ?_
      exact hr' F5 H5 y w dy dw o s5 (ry.mono (g4.ff.trans g5.ff)) rw' ho Q fun F' H' fp' v rs => q F' H' fp' v (rs.pre (g1.trans (g2.trans (g4.trans g5))))
    | false =>
      rw [if_neg (by decide)] at ho
      cases ho
      exact q F4 _ [] _ ((res_bl s4 false).pre (g1.trans (g2.trans g4)))⟩
theorem se_chain {a b c : Expr} {op op' : CmpOp} {ta tb tc : TE} {fa fb fc : EX} {va vb vc : List Nat} {r r' : R2} {dop dop' : D → D → Option OD} (ho : BinR X (compareOp op) r dop) (ho' : BinR X (compareOp op') r' dop') (ha : SE X a ta fa va) (hb : SE X b tb fb vb) (hc : SE X c tc fc vc)
    (hm : lastMarks [op, op'] [b, c] = false := by with_unfolding_all rfl) : SE X (.Compare a [op, op'] [b, c] pos) (tChain r r' ta tb tc) (eChain dop dop' fa fb fc) (va ++ (vb ++ vc)) :=
  ⟨pe_chain ho.opr ho'.opr ha.pe hb.pe hc.pe hm, sem_chain ha.sem hb.sem hc.sem ho.sem ho'.sem⟩
theorem st_chain {a b c : Expr} {op op' : CmpOp} {ta tb tc : TE} {fa fb fc : EX} {va vb vc : List Nat} {r r' : R2} {dop dop' : D → D → Option OD} (ho : BinR X (compareOp op) r dop) (ho' : BinR X (compareOp op') r' dop') (ha : SE X a ta fa va) (hb : SE X b tb fb vb) (hc : SE X c tc fc vc)
    (hm : lastMarks [op, op'] [b, c] = false := by with_unfolding_all rfl) : ST X (.Compare a [op, op'] [b, c] pos) (tTest (tChain r r' ta tb tc)) (tV (eChain dop dop' fa fb fc)) (va ++ (vb ++ vc)) :=
  ⟨pt_chain ho.opr ho'.opr ha.pe hb.pe hc.pe hm, sem_tB (sem_chain ha.sem hb.sem hc.sem ho.sem ho'.sem)⟩
end
end Z
/-! Subscripts, slices, displays, calls, comprehensions, built-ins. -/
namespace Z
open PySem L2

section
variable {X : Cx} {pos : Pos}
/-! ### subscripts -/
theorem place_eq (n : Nat) (i : Int) : place n i = ixN n i := rfl
theorem at_map {α β : Type} (f : α → β) (xs : List α) (i : Int) : at' (xs.map f) i = (at' xs i).map f := by
  unfold at'
  rw [List.length_map]
  cases place xs.length i with
  | none => rfl
  | some j => simp
theorem reps_at {K : PySem.W.Frag} {F : Hp} {vs : List V} {ds : List D} {i : Int} {d : D} (r : Reps K F vs ds) (h : at' ds i = some d) : ∃ v, atI vs i = some v ∧ Rep K F v d := by
  unfold at' at h
  rw [Option.bind_eq_some_iff] at h
  obtain ⟨j, h1, h2⟩ := h
  obtain ⟨v, h3, h4⟩ := r.get h2
  refine ⟨v, ?_, h4⟩
  unfold atI
  rw [r.length, ← place_eq, h1]
  exact h3
theorem sem_idx {K : PySem.W.Frag} : RSem K (rIx K) opIdx := fun F H x y dx dy o hs rx ry ho Q q => by
  unfold opIdx at ho
  split at ho
  · rename_i ds i
    rw [Option.map_eq_some_iff] at ho
    obtain ⟨d, h1, rfl⟩ := ho
    cases ry
    cases rx with
    | lst h l r =>
      obtain ⟨v, h2, h3⟩ := reps_at r h1
      exact .inl ⟨_, _, _, v, rfl, rfl, .inl (.inl (hs _ _ h)), h2, q F H [] v (.frz .refl hs h3)⟩
  · rename_i ds i
    rw [Option.map_eq_some_iff] at ho
    obtain ⟨d, h1, rfl⟩ := ho
    cases ry
    cases rx with
    | tup h l r =>
      obtain ⟨v, h2, h3⟩ := reps_at r h1
      exact .inr (.inl ⟨_, _, _, v, rfl, rfl, same_sqT hs h, h2, q F H [] v (.frz .refl hs h3)⟩)
  · rename_i ns i
    rw [Option.map_eq_some_iff] at ho
    obtain ⟨n, h1, rfl⟩ := ho
    cases ry
    cases rx with
    | scr h =>
      refine .inl ⟨_, _, _, .int n, rfl, rfl, hs.seq h, ?_, q F H [] _ (res_int hs n)⟩
      have := at_map V.int ns i
      rw [h1] at this
      exact this
  · rename_i z i
    rw [Option.map_eq_some_iff] at ho
    obtain ⟨c, h1, rfl⟩ := ho
    cases ry
    cases rx
    split at h1
    · rename_i hz
      exact .inr (.inr ⟨z, i, c, rfl, rfl, by rw [← sz_eq]; exact hz, h1, q F H [] _ (res_str hs _)⟩)
    · cases h1
  · cases ho
theorem se_idx {K : PySem.W.Frag} {a b : Expr} {ta tb : TE} {fa fb : EX} {va vb : List Nat} (ha : SE X a ta fa va) (hb : SE X b tb fb vb) (hs : PlainIx b := by exact fun _ _ => rfl) (hK : X.K = K := by rfl) : SE X (.Subscript a b pos) (tOp (rIx K) ta tb) (eOp opIdx fa fb) (va ++ vb) := by
  subst hK
  exact ⟨pe_ix ix_seq ha.pe hb.pe hs, sem_op ha.sem hb.sem sem_idx⟩

/-! ### slices -/
structure SemO' (K : PySem.W.Frag) (t : TO) (f : Option EX) (vs : List Nat) : Prop where
  cong : Cong (eOpt f) vs
  run : ∀ (F H : Hp) (σ : L2.St) (e : Ev), Same F H → EnvR K F σ e → ∀ b, eOpt f e = some b → ∀ Q : Option Int → Hp → Prop, (∀ F' H', Grow F H F' H' → Same F' H' → Q b H') → t σ H Q
structure SPO (X : Cx) (e : Option Expr) (t : TO) (f : Option EX) (vs : List Nat) : Prop where
  po : PO X e t
  sem : SemO' X.K t f vs
theorem so_none : SPO X none tNoPart none [] := ⟨po_none, fun _ _ _ _ => rfl, fun F H σ e hs he b hb Q q => by cases hb; exact q F H .refl hs⟩
theorem so_some {a : Expr} {ta : TE} {fa : EX} {va : List Nat} (ha : SE X a ta fa va) : SPO X (some a) (tPart ta) (some fa) va :=
  ⟨po_some ha.pe, fun e e' hl k => by
    show (fa.d e).bind _ = (fa.d e').bind _
    rw [ha.sem.cong.d e e' hl k], fun F H σ e hs he b hb Q q => by
    replace hb : (fa.d e).bind _ = some b := hb
    rw [Option.bind_eq_some_iff] at hb
    obtain ⟨d, h1, h2⟩ := hb
    cases d <;> simp only [reduceCtorEq] at h2
    cases h2
    refine ha.sem.runD hs he h1 fun F1 H1 x g1 s1 rx => ?_
    cases rx
    exact ⟨_, rfl, q F1 H1 g1 s1⟩⟩
theorem cut_eq (xs : List V) (lo hi : Option Int) : cut xs lo hi = cutV xs lo hi := rfl
theorem cut_reps {K : PySem.W.Frag} {F : Hp} {vs : List V} {ds : List D} (r : Reps K F vs ds) (lo hi : Option Int) : Reps K F (cut vs lo hi) (cut ds lo hi) := by
  unfold cut
  rw [r.length]
  exact (r.drop _).take _
def rCut (K : PySem.W.Frag) : V → Option Int → Option Int → Hp → VK → Prop := fun x lo hi H Q => rSlL K x lo hi H Q ∨ rSlS x lo hi H Q
theorem se_cut {K : PySem.W.Frag} {a : Expr} {lo hi : Option Expr} {ta : TE} {fa : EX} {va vl vh : List Nat} {tl th : TO} {fl fh : Option EX} {p2 : Pos} (ha : SE X a ta fa va) (hl : SPO X lo tl fl vl) (hh : SPO X hi th fh vh) (hK : X.K = K := by rfl) :
    SE X (.Subscript a (.Slice lo hi none p2) pos) (tSl (rCut K) ta tl th) (eCut fa fl fh) (va ++ (vl ++ vh)) := by
  subst hK
  exact ⟨pe_slice (sl_list.or sl_str) ha.pe hl.po hh.po, fun e e' hn k => by
    unfold eCut
    rw [ha.sem.cong.d.left e e' hn k, (hl.sem.cong.left (ws := vh)).right e e' hn k, (hh.sem.cong.right (vs := vl)).right e e' hn k], fun F H σ e hs he o ho Q q => by
    unfold eCut at ho
    rw [Option.bind_eq_some_iff] at ho
    obtain ⟨dx, h1, ho⟩ := ho
    rw [Option.bind_eq_some_iff] at ho
    obtain ⟨l, h2, ho⟩ := ho
    rw [Option.bind_eq_some_iff] at ho
    obtain ⟨u, h3, ho⟩ := ho
    refine ha.sem.runD hs he h1 fun F1 H1 x g1 s1 rx => ?_
    refine hl.sem.run F1 H1 σ e s1 (he.mono g1.ff) l h2 _ fun F2 H2 g2 s2 => ?_
    refine hh.sem.run F2 H2 σ e s2 (he.mono (g1.ff.trans g2.ff)) u h3 _ fun F3 H3 g3 s3 => ?_
    have rx3 := rx.mono (g2.ff.trans g3.ff)
    have g := g1.trans (g2.trans g3)
    unfold opCut at ho
    split at ho
    · cases ho
      cases rx3 with
      | @lst a' vs' _ h l' r =>
        refine .inl ⟨_, _, rfl, .inl (.inl (s3 _ _ h)), fun p hp => q _ _ [p] _ ((res_new s3 (cut_reps r _ _) ?_ hp).pre g)⟩
        exact Nat.le_trans (cutV_length _ _ _) l'
    · split at ho
      · rename_i hz
        cases ho
        cases rx3
        exact .inr ⟨_, rfl, by rw [← sz_eq]; exact hz, q _ _ [] _ ((res_str s3 _).pre g)⟩
      · cases ho
    · cases ho⟩

theorem Reps.snoc {K : PySem.W.Frag} {F : Hp} {vs : List V} {ds : List D} (r : Reps K F vs ds) {v : V} {d : D} (h : Rep K F v d) : Reps K F (vs ++ [v]) (ds ++ [d]) := r.append (.cons h .nil)
theorem Reps.reverse {K : PySem.W.Frag} {F : Hp} : ∀ {vs : List V} {ds : List D}, Reps K F vs ds → Reps K F vs.reverse ds.reverse
  | _, _, .nil => .nil
  | _, _, .cons h r => by rw [List.reverse_cons, List.reverse_cons]; exact (Reps.reverse r).snoc h
theorem se_rev {K : PySem.W.Frag} {a : Expr} {ta : TE} {fa : EX} {va : List Nat} {k : Nat} {p1 p2 p3 : Pos} (ha : SE X a ta fa va) (hK : X.K = K := by rfl) : SE X (.Subscript a (.Slice none none (some (.UnaryOp .USub (.Constant (.int 1) k p1) p2)) p3) pos) (tRevL K ta) (eRev fa) va := by
  subst hK
  exact ⟨pe_revL ha.pe, fun e e' hn k => by unfold eRev eUn; rw [ha.sem.cong.d e e' hn k], fun F H σ e hs he o ho Q q => by
    unfold eRev eUn at ho
    rw [Option.bind_eq_some_iff] at ho
    obtain ⟨dx, h1, ho⟩ := ho
    refine ha.sem.runD hs he h1 fun F1 H1 x g1 s1 rx => ?_
    cases dx <;> simp only [opRev, reduceCtorEq] at ho
    cases ho
    cases rx with
    | @lst a' vs' _ h l' r =>
      exact ⟨_, _, rfl, .inl (.inl (s1 _ _ h)), fun p hp => q _ _ [p] _ ((res_new s1 r.reverse (by rw [List.length_reverse]; exact l') hp).pre g1)⟩⟩

/-! ### several -/
structure SemA (K : PySem.W.Frag) (t : TA) (fs : List EX) (vs : List Nat) : Prop where
  congD : Cong (eds fs) vs
  cong : Cong (eods fs) vs
  run : ∀ (F H : Hp) (σ : L2.St) (e : Ev), Same F H → EnvR K F σ e → ∀ os, eods fs e = some os → ∀ Q : List V → Hp → Prop,
    (∀ F' H' fp ws, Grow F H F' H' → Same F' H' → Owns K F' H' fp ws os → fp.Nodup → (∀ p ∈ fp, F' p = none ∧ H p = none) → Q ws H') → t σ H Q
  runD : ∀ (F H : Hp) (σ : L2.St) (e : Ev), Same F H → EnvR K F σ e → ∀ ds, eds fs e = some ds → ∀ Q : List V → Hp → Prop,
    (∀ F' H' ws, Grow F H F' H' → Same F' H' → Reps K F' ws ds → Q ws H') → t σ H Q
structure SA (X : Cx) (es : List Expr) (t : TA) (fs : List EX) (vs : List Nat) : Prop where
  pa : PA X es t
  sem : SemA X.K t fs vs
theorem sa_nil : SA X [] tNil [] [] := ⟨pa_nil, fun _ _ _ _ => rfl, fun _ _ _ _ => rfl, fun F H σ e hs he os ho Q q => by
    cases ho; exact q F H [] [] .refl hs .nil List.nodup_nil fun p hp => by simp at hp, fun F H σ e hs he os ho Q q => by
    cases ho; exact q F H [] .refl hs .nil⟩
theorem sa_cons {a : Expr} {es : List Expr} {ta : TE} {fa : EX} {va vs : List Nat} {t : TA} {fs : List EX} (ha : SE X a ta fa va) (hr : SA X es t fs vs) (hst : starEach (a :: es) X.env = (false, eval a X.env) :: starEach es X.env := by rfl) :
    SA X (a :: es) (tCons ta t) (fa :: fs) (va ++ vs) :=
  ⟨pa_cons ha.pe hr.pa hst, fun e e' hn k => by
    simp only [eds]
    rw [ha.sem.cong.d.left e e' hn k, hr.sem.congD.right e e' hn k], fun e e' hn k => by
    simp only [eods]
    rw [ha.sem.cong.left e e' hn k, hr.sem.cong.right e e' hn k], fun F H σ e hs he os ho Q q => by
    simp only [eods] at ho
    rw [Option.bind_eq_some_iff] at ho
    obtain ⟨o, h1, ho⟩ := ho
    rw [Option.bind_eq_some_iff] at ho
    obtain ⟨os', h2, ho⟩ := ho
    cases ho
    refine ha.sem.run F H σ e hs he o h1 _ fun F1 H1 fp v r => ?_
    refine hr.sem.run F1 H1 σ e r.same (he.mono r.grow.ff) os' h2 _ fun F2 H2 fq ws g2 s2 o2 n2 new2 => ?_
    have keep : ∀ p ∈ fp, H2 p = H1 p := fun p hp => by
      obtain ⟨u, hu⟩ := r.own.there p hp
      rw [hu, g2.hh p u hu]
    refine q F2 H2 (fp ++ fq) (v :: ws) (r.grow.trans g2) s2 (.cons (r.own.mono g2.ff keep) o2) ?_ fun p hp => ?_
    · rw [List.nodup_append]
      refine ⟨r.nd, n2, fun a ha b hb e => ?_⟩
      subst e
      obtain ⟨u, hu⟩ := r.own.there a ha
      rw [(new2 a hb).2] at hu
      cases hu
    · rcases List.mem_append.mp hp with hp | hp
      · refine ⟨?_, (r.new p hp).2⟩
        cases e2 : F2 p with
        | none => rfl
        | some u =>
          obtain ⟨w, hw⟩ := r.own.there p hp
          rcases g2.new p u e2 with z | z
          · rw [(r.new p hp).1] at z; cases z
          · rw [hw] at z; cases z
      · exact ⟨(new2 p hp).1, r.grow.hh.free (new2 p hp).2⟩, fun F H σ e hs he ds ho Q q => by
    simp only [eds] at ho
    rw [Option.bind_eq_some_iff] at ho
    obtain ⟨d, h1, ho⟩ := ho
    rw [Option.bind_eq_some_iff] at ho
    obtain ⟨ds', h2, ho⟩ := ho
    cases ho
    refine ha.sem.runD hs he h1 fun F1 H1 v g1 s1 r1 => ?_
    refine hr.sem.runD F1 H1 σ e s1 (he.mono g1.ff) ds' h2 _ fun F2 H2 ws g2 s2 r2 => ?_
    exact q F2 H2 (v :: ws) (g1.trans g2) s2 (.cons (r1.mono g2.ff) r2)⟩
theorem eods_len : ∀ {fs : List EX} {e : Ev} {os : List OD}, eods fs e = some os → os.length = fs.length
  | [], _, _, h => by cases h; rfl
  | f :: fs, e, os, h => by
    simp only [eods] at h
    rw [Option.bind_eq_some_iff] at h
    obtain ⟨o, h1, h⟩ := h
    rw [Option.bind_eq_some_iff] at h
    obtain ⟨os', h2, h⟩ := h
    cases h
    rw [List.length_cons, List.length_cons, eods_len h2]
/-- a new list or tuple of what was made -/
theorem owns_new {r : OD} {K : PySem.W.Frag} {F H F' H' : Hp} {fp : List Addr} {ws : List V} {os : List OD} (g : Grow F H F' H') (s : Same F' H') (o : Owns K F' H' fp ws os) (nd : fp.Nodup) (new : ∀ p ∈ fp, F' p = none ∧ H p = none) {p : Addr} (hp : H' p = none) (u : HO)
    (mk : ∀ Hn : Hp, Hn p = some u → Owns K F' Hn fp ws os → Own K F' Hn (p :: fp) (.ref p) r) : Res K F H F' (upd H' p u) (p :: fp) (.ref p) r where
  grow := g.trans (new_grow s hp).1
  same := (new_grow s hp).2
  own := mk _ upd_same (o.mono (Same.refl _) fun b hb => upd_ne fun e => by
    subst e
    obtain ⟨u', hu⟩ := o.there b hb
    rw [hp] at hu; cases hu)
  nd := List.nodup_cons.mpr ⟨fun hb => (by
    obtain ⟨u', hu⟩ := o.there p hb
    rw [hp] at hu
    cases hu), nd⟩
  new := fun b hb => by
    rcases List.mem_cons.mp hb with e | hb
    · subst e; exact ⟨s.free hp, g.hh.free hp⟩
    · exact new b hb
theorem se_tup {es : List Expr} {t : TA} {fs : List EX} {vs : List Nat} {x1} (h : SA X es t fs vs) (hl : fs.length ≤ 1000 := by exact Nat.le_of_ble_eq_true rfl) : SE X (.Tuple es x1 pos) (tTup t) (eTup fs) vs :=
  ⟨pe_tup h.pa, fun e e' hn k => by unfold eTup; rw [h.sem.cong e e' hn k], fun F H σ e hs he o ho Q q => by
    unfold eTup at ho
    rw [Option.map_eq_some_iff] at ho
    obtain ⟨os, h1, rfl⟩ := ho
    refine h.sem.run F H σ e hs he os h1 _ fun F1 H1 fp ws g s o nd new => ?_
    have hw : ws.length ≤ sizeLine := by rw [o.length, eods_len h1]; exact Nat.le_trans hl (by decide)
    exact ⟨hw, fun p hp => q _ _ _ _ (owns_new g s o nd new hp _ fun Hn e ow => .tup e hw ow)⟩⟩
theorem se_lst {es : List Expr} {t : TA} {fs : List EX} {vs : List Nat} (h : SA X es t fs vs) (hl : fs.length ≤ 1000 := by exact Nat.le_of_ble_eq_true rfl) : SE X (.List es pos) (tLst t) (eLst fs) vs :=
  ⟨pe_lst h.pa, fun e e' hn k => by unfold eLst; rw [h.sem.cong e e' hn k], fun F H σ e hs he o ho Q q => by
    unfold eLst at ho
    rw [Option.map_eq_some_iff] at ho
    obtain ⟨os, h1, rfl⟩ := ho
    refine h.sem.run F H σ e hs he os h1 _ fun F1 H1 fp ws g s o nd new => ?_
    have hw : ws.length ≤ sizeLine := by rw [o.length, eods_len h1]; exact Nat.le_trans hl (by decide)
    exact ⟨hw, fun p hp => q _ _ _ _ (owns_new g s o nd new hp _ fun Hn e ow => .lst e hw ow)⟩⟩

/-! ### calls -/
/-- what a def that raises nothing and changes nothing promises -/
def spOf (K : PySem.W.Frag) (n : Nat) (φ : Fn) : Sp := fun vs H Q _ => vs.length = n ∧ ∃ (F : Hp) (ds : List D) (o : OD), Same F H ∧ Reps K F vs ds ∧ φ ds = some o ∧ ∀ F' H' fp v, Res K F H F' H' fp v o → Q v H'
theorem eds_len : ∀ {fs : List EX} {e : Ev} {ds : List D}, eds fs e = some ds → ds.length = fs.length
  | [], _, _, h => by cases h; rfl
  | f :: fs, e, os, h => by
    simp only [eds] at h
    rw [Option.bind_eq_some_iff] at h
    obtain ⟨o, h1, h⟩ := h
    rw [Option.bind_eq_some_iff] at h
    obtain ⟨os', h2, h⟩ := h
    cases h
    rw [List.length_cons, List.length_cons, eds_len h2]
/-- a def that stands in the module under the name x -/
structure FnAt (P : Program) (w : World) (K : PySem.W.Frag) (mg : Str → Option Value) (base : Heap) (k : Nat) (x : Str) (n : Nat) (φ : Fn) : Prop where
  ex : ∃ (f : Addr) (fd : FuncData) (ps : List Str), FnOk P w K mg base CX0 k f fd ps (spOf K n φ) ∧ mg x = some (.ref f) ∧ PySem.W.keepIn K (.ref f) = true ∧ Binds K fd ps []
theorem sem_call {K : PySem.W.Frag} {t : TA} {fs : List EX} {vs : List Nat} {n : Nat} {φ : Fn} {E : XK} (h : SemA K t fs vs) (hn : fs.length = n) : SemE K (tCall (spOf K n φ) [] E t) (eCall φ fs) vs :=
  ⟨fun e e' hl k => by unfold eCall; rw [h.congD e e' hl k], fun F H σ e hs he o ho Q q => by
    unfold eCall at ho
    rw [Option.bind_eq_some_iff] at ho
    obtain ⟨ds, h1, h2⟩ := ho
    refine h.runD F H σ e hs he ds h1 _ fun F1 H1 ws g s r => ?_
    show spOf K n φ (ws ++ []) H1 Q E
    rw [List.append_nil]
    exact ⟨by rw [r.length, eds_len h1, hn], F1, ds, o, s, r, h2, fun F' H' fp v rs => q F' H' fp v (rs.pre g)⟩⟩
theorem se_call {K : PySem.W.Frag} {k n : Nat} {x : Str} {φ : Fn} {p : Pos} {a : Expr} {es : List Expr} {t : TA} {fs : List EX} {vs : List Nat} (F : FnAt X.prog X.w X.K X.mg X.base k x n φ) (hr : Room k X.A) (h : SA X (a :: es) t fs vs) (hg : Gl X x := by rfl)
    (hn : fs.length = n := by rfl) (hdb : (x == ("__debug__" : Str)) = false := by decide) (he : starEach (a :: es) X.env = (false, eval a X.env) :: starEach es X.env := by rfl) (hpl : (backTo pos (starEach es X.env)).any (·.1) = false := by rfl) (hK : X.K = K := by rfl) :
    SE X (.Call (.Name x p) (a :: es) [] pos) (tCall (spOf K n φ) [] E0 t) (eCall φ fs) vs := by
  subst hK
  obtain ⟨f, fd, ps, ok, hm, hk, hb⟩ := F.ex
  exact ⟨pe_call ok hr hg hm hk hb .nil pass0 h.pa hdb he hpl, sem_call h.sem hn⟩
/-- a built-in by its value -/
def CSem (K : PySem.W.Frag) (r : List V → Hp → VK → Prop) (φ : Fn) : Prop := ∀ (F H : Hp) (vs : List V) (ds : List D) (o : OD), Same F H → Reps K F vs ds → φ ds = some o → ∀ Q : VK, (∀ F' H' fp v, Res K F H F' H' fp v o → Q v H') → r vs H Q
structure BltR (X : Cx) (f : Value) (r : List V → Hp → VK → Prop) (φ : Fn) : Prop where
  opr : CallR X f r
  sem : CSem X.K r φ
theorem sem_cb {K : PySem.W.Frag} {t : TA} {fs : List EX} {vs : List Nat} {r : List V → Hp → VK → Prop} {φ : Fn} (h : SemA K t fs vs) (hr : CSem K r φ) : SemE K (tCB r t) (eCall φ fs) vs :=
  ⟨fun e e' hl k => by unfold eCall; rw [h.congD e e' hl k], fun F H σ e hs he o ho Q q => by
    unfold eCall at ho
    rw [Option.bind_eq_some_iff] at ho
    obtain ⟨ds, h1, h2⟩ := ho
    exact h.runD F H σ e hs he ds h1 _ fun F1 H1 ws g s rr => hr F1 H1 ws ds o s rr h2 Q fun F' H' fp v rs => q F' H' fp v (rs.pre g)⟩
theorem se_blt {x : Str} {id : String} {r : List V → Hp → VK → Prop} {φ : Fn} {p : Pos} {a : Expr} {es : List Expr} {t : TA} {fs : List EX} {vs : List Nat} (hc : BltR X (.builtin id) r φ) (hm : X.mg x = none) (h : SA X (a :: es) t fs vs) (hv : bootBuiltins x = some (.builtin id) := by decide +kernel) (hg : Gl X x := by rfl)
    (hn : x ≠ "__name__" := by decide) (hdb : (x == ("__debug__" : Str)) = false := by decide) (he : starEach (a :: es) X.env = (false, eval a X.env) :: starEach es X.env := by rfl) (hpl : (backTo pos (starEach es X.env)).any (·.1) = false := by rfl) :
    SE X (.Call (.Name x p) (a :: es) [] pos) (tCB r t) (eCall φ fs) vs := ⟨pe_callB hc.opr hg hm hv h.pa hn hdb he hpl, sem_cb h.sem hc.sem⟩
theorem se_bty {x : Str} {T : String} {r : List V → Hp → VK → Prop} {φ : Fn} {p : Pos} {a : Expr} {es : List Expr} {t : TA} {fs : List EX} {vs : List Nat} (hc : BltR X (.type T) r φ) (hm : X.mg x = none) (h : SA X (a :: es) t fs vs) (hv : bootBuiltins x = some (.type T) := by decide +kernel) (hg : Gl X x := by rfl)
    (hn : x ≠ "__name__" := by decide) (hdb : (x == ("__debug__" : Str)) = false := by decide) (he : starEach (a :: es) X.env = (false, eval a X.env) :: starEach es X.env := by rfl) (hpl : (backTo pos (starEach es X.env)).any (·.1) = false := by rfl) :
    SE X (.Call (.Name x p) (a :: es) [] pos) (tCB r t) (eCall φ fs) vs := ⟨pe_callTy hc.opr hg hm hv h.pa hn hdb he hpl, sem_cb h.sem hc.sem⟩
theorem reps1 {K : PySem.W.Frag} {F : Hp} {vs : List V} {d : D} (r : Reps K F vs [d]) : ∃ v, vs = [v] ∧ Rep K F v d := by
  cases r with
  | cons h t => cases t; exact ⟨_, rfl, h⟩
theorem reps2 {K : PySem.W.Frag} {F : Hp} {vs : List V} {d e : D} (r : Reps K F vs [d, e]) : ∃ v w, vs = [v, w] ∧ Rep K F v d ∧ Rep K F w e := by
  cases r with
  | cons h t => obtain ⟨w, rfl, hw⟩ := reps1 t; exact ⟨_, _, rfl, h, hw⟩
theorem b_len {K : PySem.W.Frag} (hK : X.K = K := by rfl) : BltR X (.builtin "len") (fun xs H Q => ∃ x n, xs = [x] ∧ LenV K x H n ∧ Q (.int n) H) pLen := by
  subst hK
  exact ⟨call_len, fun F H vs ds o hs r ho Q q => by
    unfold pLen at ho
    split at ho
    · obtain ⟨v, rfl, rv⟩ := reps1 r
      cases ho
      cases rv with
      | lst h l rr => exact ⟨_, _, rfl, .inl ⟨_, .inl (.inl (hs _ _ h)), rfl⟩, q F H [] _ (by rw [rr.length]; exact res_int hs _)⟩
    · obtain ⟨v, rfl, rv⟩ := reps1 r
      cases ho
      cases rv with
      | tup h l rr => exact ⟨_, _, rfl, .inr ⟨_, same_sqT hs h, rfl⟩, q F H [] _ (by rw [rr.length]; exact res_int hs _)⟩
    · obtain ⟨v, rfl, rv⟩ := reps1 r
      cases ho
      cases rv with
      | scr h => exact ⟨_, _, rfl, .inl ⟨_, hs.seq h, rfl⟩, q F H [] _ (by rw [List.length_map]; exact res_int hs _)⟩
    · split at ho
      · rename_i hz
        obtain ⟨v, rfl, rv⟩ := reps1 r
        cases ho
        cases rv
        exact ⟨_, _, rfl, ⟨by rw [← sz_eq]; exact hz, rfl⟩, q F H [] _ (res_int hs _)⟩
      · cases ho
    · cases ho⟩
theorem b_abs : BltR X (.builtin "abs") (fun xs H Q => ∃ i, xs = [.int i] ∧ Q (.int (if i < 0 then -i else i)) H) pAbs :=
  ⟨call_abs, fun F H vs ds o hs r ho Q q => by
    unfold pAbs at ho
    split at ho
    · obtain ⟨v, rfl, rv⟩ := reps1 r
      cases ho
      cases rv
      exact ⟨_, rfl, q F H [] _ (res_int hs _)⟩
    · cases ho⟩
theorem b_max2 (hc : X.calm = true) : BltR X (.builtin "max") (fun xs H Q => ∃ i j, xs = [.int i, .int j] ∧ Q (.int (if j > i then j else i)) H) pMax2 :=
  ⟨call_max2 hc, fun F H vs ds o hs r ho Q q => by
    unfold pMax2 at ho
    split at ho
    · obtain ⟨v, w, rfl, rv, rw'⟩ := reps2 r
      cases ho
      cases rv
      cases rw'
      exact ⟨_, _, rfl, q F H [] _ (res_int hs _)⟩
    · cases ho⟩
theorem b_min2 (hc : X.calm = true) : BltR X (.builtin "min") (fun xs H Q => ∃ i j, xs = [.int i, .int j] ∧ Q (.int (if j < i then j else i)) H) pMin2 :=
  ⟨call_min2 hc, fun F H vs ds o hs r ho Q q => by
    unfold pMin2 at ho
    split at ho
    · obtain ⟨v, w, rfl, rv, rw'⟩ := reps2 r
      cases ho
      cases rv
      cases rw'
      exact ⟨_, _, rfl, q F H [] _ (res_int hs _)⟩
    · cases ho⟩
theorem b_list {K : PySem.W.Frag} (hK : X.K = K := by rfl) : BltR X (.type "list") (fun xs H Q => ∃ p ys, xs = [.ref p] ∧ (SqL K H p ys ∨ SqT K H p ys) ∧ ∀ l, H l = none → Q (.ref l) (upd H l (.lst ys))) pList := by
  subst hK
  exact ⟨call_list_of, fun F H vs ds o hs r ho Q q => by
    unfold pList at ho
    split at ho
    · obtain ⟨v, rfl, rv⟩ := reps1 r
      cases ho
      cases rv with
      | lst h l rr => exact ⟨_, _, rfl, .inl (.inl (.inl (hs _ _ h))), fun p hp => q F _ [p] _ (res_new hs rr l hp)⟩
    · obtain ⟨v, rfl, rv⟩ := reps1 r
      cases ho
      cases rv with
      | tup h l rr => exact ⟨_, _, rfl, .inr (same_sqT hs h), fun p hp => q F _ [p] _ (res_new hs rr l hp)⟩
    · cases ho⟩
theorem b_int : BltR X (.type "int") (fun xs H Q => (∃ i, xs = [.int i] ∧ Q (.int i) H) ∨ ∃ k, xs = [.bl k] ∧ Q (.int (if k then 1 else 0)) H) pInt :=
  ⟨call_int1, fun F H vs ds o hs r ho Q q => by
    unfold pInt at ho
    split at ho
    · obtain ⟨v, rfl, rv⟩ := reps1 r
      cases ho
      cases rv
      exact .inl ⟨_, rfl, q F H [] _ (res_int hs _)⟩
    · obtain ⟨v, rfl, rv⟩ := reps1 r
      cases ho
      cases rv
      exact .inr ⟨_, rfl, q F H [] _ (res_int hs _)⟩
    · cases ho⟩
theorem b_sum {K : PySem.W.Frag} (hc : X.calm = true) (hK : X.K = K := by rfl) : BltR X (.builtin "sum") (rSum K) pSum := by
  subst hK
  exact ⟨cr_sum hc, fun F H vs ds o hs r ho Q q => by
    unfold pSum at ho
    split at ho
    · rw [Option.map_eq_some_iff] at ho
      obtain ⟨ns, h1, rfl⟩ := ho
      obtain ⟨v, rfl, rv⟩ := reps1 r
      cases rv with
      | lst h l rr =>
        have e := rr.ints h1
        subst e
        exact ⟨_, ns, rfl, .inl (.inl (hs _ _ h)), q F H [] _ (res_int hs _)⟩
    · cases ho⟩
theorem b_all {K : PySem.W.Frag} (hc : X.calm = true) (hK : X.K = K := by rfl) : BltR X (.builtin "all") (fun vs H Q => ∃ (a : Addr) (bs : List Bool), vs = [V.ref a] ∧ SqL K H a (bs.map V.bl) ∧ Q (.bl (bs.all id)) H) pAll := by
  subst hK
  exact ⟨cr_all hc, fun F H vs ds o hs r ho Q q => by
    unfold pAll at ho
    split at ho
    · rw [Option.map_eq_some_iff] at ho
      obtain ⟨ns, h1, rfl⟩ := ho
      obtain ⟨v, rfl, rv⟩ := reps1 r
      cases rv with
      | lst h l rr =>
        have e := rr.bls h1
        subst e
        exact ⟨_, ns, rfl, .inl (.inl (hs _ _ h)), q F H [] _ (res_bl hs _)⟩
    · cases ho⟩
theorem b_any {K : PySem.W.Frag} (hc : X.calm = true) (hK : X.K = K := by rfl) : BltR X (.builtin "any") (fun vs H Q => ∃ (a : Addr) (bs : List Bool), vs = [V.ref a] ∧ SqL K H a (bs.map V.bl) ∧ Q (.bl (bs.any id)) H) pAny := by
  subst hK
  exact ⟨cr_any hc, fun F H vs ds o hs r ho Q q => by
    unfold pAny at ho
    split at ho
    · rw [Option.map_eq_some_iff] at ho
      obtain ⟨ns, h1, rfl⟩ := ho
      obtain ⟨v, rfl, rv⟩ := reps1 r
      cases rv with
      | lst h l rr =>
        have e := rr.bls h1
        subst e
        exact ⟨_, ns, rfl, .inl (.inl (hs _ _ h)), q F H [] _ (res_bl hs _)⟩
    · cases ho⟩
/-! isinstance(x, T), T a built-in class -/
theorem ty_of {K : PySem.W.Frag} {F H : Hp} (hs : Same F H) : ∀ {d : D} {v : V}, Rep K F v d → d.scalar = true ∨ (∃ xs, d = .lst xs) ∨ (∃ xs, d = .tup xs) → TyX K H v (.type d.ty)
  | _, _, .non, _ => .base .non
  | _, _, .bl b, _ => .base (.bl b)
  | _, _, .int i, _ => .base (.int i)
  | _, _, .str x, _ => .base (.str x)
  | _, _, .lst h _ _, _ => .base (.lst (hs _ _ h))
  | _, _, .tup (.inl (.inl h)) _ _, _ => .base (.tup (hs _ _ h))
  | _, _, .tup (.inl (.inr ⟨o, h⟩)) _ _, _ => .fTuple (hs _ _ h)
  | _, _, .tup (.inr ⟨o, its, n, h1, h2, _⟩) _ _, _ => .kTuple h1 h2
  | _, _, .scr _, h => by rcases h with h | ⟨_, h⟩ | ⟨_, h⟩ <;> cases h
def kinds : List String := ["NoneType", "bool", "int", "str", "list", "tuple"]
theorem ty_kind (d : D) (h : d.scalar = true ∨ (∃ xs, d = .lst xs) ∨ (∃ xs, d = .tup xs)) : d.ty ∈ kinds := by
  cases d <;> first
    | (simp [D.ty, kinds]; done)
    | (rcases h with h | ⟨_, h⟩ | ⟨_, h⟩ <;> cases h)
theorem se_isi {K : PySem.W.Frag} {x : Str} {T : String} {a : Expr} {ta : TE} {fa : EX} {va : List Nat} {p p2 : Pos} {y : Str} (ha : SE X a ta fa va) (hm : X.mg x = none) (hmT : X.mg y = none) (hv : bootBuiltins x = some (.builtin "isinstance") := by decide +kernel) (hvT : bootBuiltins y = some (.type T) := by decide +kernel)
    (hk : kinds.all (fun k => decide (kitB k T = some (k == T || (T == "int" && k == "bool")))) = true := by decide +kernel) (hg : Gl X x := by rfl) (hgT : Gl X y := by rfl)
    (hn : x ≠ "__name__" := by decide) (hdb : (x == ("__debug__" : Str)) = false := by decide) (hn2 : y ≠ "__name__" := by decide) (hdb2 : (y == ("__debug__" : Str)) = false := by decide)
    (he : starEach [a, .Name y p2] X.env = (false, eval a X.env) :: starEach [.Name y p2] X.env := by rfl) (hpl : (backTo pos (starEach [.Name y p2] X.env)).any (·.1) = false := by rfl) (he2 : starEach [.Name y p2] X.env = (false, eval (.Name y p2) X.env) :: starEach [] X.env := by rfl) (hK : X.K = K := by rfl) :
    SE X (.Call (.Name x p) [a, .Name y p2] [] pos) (tCB (rIsi K) (tCons ta (tCons (tC (.ty T)) tNil))) (eCall (pIsi T) [fa]) va := by
  subst hK
  exact ⟨pe_callB call_isi hg hm hv (pa_cons ha.pe (pa_cons (pe_bltn hgT hmT hvT rfl hn2 hdb2) pa_nil he2) he) hn hdb he hpl, fun e e' hl k => by
    unfold eCall
    simp only [eds]
    rw [ha.sem.cong.d e e' hl k], fun F H σ e hs he o ho Q q => by
    unfold eCall at ho
    simp only [eds] at ho
    rw [Option.bind_eq_some_iff] at ho
    obtain ⟨ds, h1, h2⟩ := ho
    rw [Option.bind_eq_some_iff] at h1
    obtain ⟨d, h3, h4⟩ := h1
    cases h4
    refine ha.sem.runD hs he h3 fun F1 H1 v g s r => ?_
    have kd : d.scalar = true ∨ (∃ xs, d = .lst xs) ∨ (∃ xs, d = .tup xs) := by
      cases d <;> first
        | exact .inl rfl
        | exact .inr (.inl ⟨_, rfl⟩)
        | exact .inr (.inr ⟨_, rfl⟩)
        | (simp [pIsi] at h2; done)
    have ho : o = fB (d.ty == T || (T == "int" && d.ty == "bool")) := by
      cases d <;> first
        | exact (Option.some.inj h2).symm
        | (simp [pIsi] at h2; done)
    subst ho
    have hkk := of_decide_eq_true (List.all_eq_true.mp hk _ (ty_kind d kd))
    exact ⟨v, .ty T, .type d.ty, .type T, _, rfl, .ty T, ty_of s r kd, kit_ty hkk, q _ _ [] _ ((res_bl s _).pre g)⟩⟩
end
end Z
/-! What is walked; comprehensions. -/
namespace Z
open PySem L2

/-- what a walk gives is the i-th -/
def Yields (K : PySem.W.Frag) (F : Hp) (ds : List D) (Y : Nat → Hp → V → Hp → Prop) : Prop :=
  ∀ i H1 x H2 d, ds[i]? = some d → Y i H1 x H2 → ∀ F1, Same F F1 → Same F1 H1 → ∃ F2, Grow F1 H1 F2 H2 ∧ Same F2 H2 ∧ Rep K F2 x d
structure SemI (K : PySem.W.Frag) (wi : TI) (src : IX) (vs : List Nat) : Prop where
  cong : Cong src vs
  run : ∀ (F H : Hp) (σ : L2.St) (e : Ev), Same F H → EnvR K F σ e → ∀ ds, src e = some ds → ∀ R : It → Hp → Prop,
    (∀ F' H' J Gd Y, Grow F H F' H' → Same F' H' → Walk J ds.length Gd Y → (∀ H1, Same F' H1 → Gd H1) → Yields K F' ds Y → R J H') → wi σ H R
structure SI (X : Cx) (tg iter : Expr) (wi : TI) (src : IX) (vs : List Nat) : Prop where
  pi : PI X tg iter wi
  sem : SemI X.K wi src vs
theorem yields_at {K : PySem.W.Frag} {F : Hp} {vs : List V} {ds : List D} (r : Reps K F vs ds) : Yields K F ds (YAt vs) := fun i H1 x H2 d hd y F1 s1 s2 => by
  obtain ⟨e, y⟩ := y
  subst e
  obtain ⟨v, h1, h2⟩ := r.get hd
  rw [h1] at y
  cases y
  exact ⟨F1, .refl, s2, h2.mono s1⟩
theorem asL_some {d : D} {xs : List D} (h : asL d = some xs) : d = .lst xs := by
  cases d <;> simp only [asL, reduceCtorEq] at h
  cases h; rfl
theorem asT_some {d : D} {xs : List D} (h : asT d = some xs) : d = .tup xs := by
  cases d <;> simp only [asT, reduceCtorEq] at h
  cases h; rfl
theorem asI_some {d : D} {i : Int} (h : asI d = some i) : d = .int i := by
  cases d <;> simp only [asI, reduceCtorEq] at h
  cases h; rfl
section
variable {X : Cx} {tg : Expr} {pos : Pos}
theorem si_lst {K : PySem.W.Frag} {l : Expr} {tl : TE} {f : EX} {vs : List Nat} (h : SE X l tl f vs) (hK : X.K = K := by rfl) : SI X tg l (iList K tl) (iLst f) vs := by
  subst hK
  exact ⟨pi_list h.pe, fun e e' hl k => by unfold iLst; rw [h.sem.cong.d e e' hl k], fun F H σ e hs he ds hd R q => by
    unfold iLst at hd
    rw [Option.bind_eq_some_iff] at hd
    obtain ⟨d, h1, h2⟩ := hd
    have := asL_some h2
    subst this
    refine h.sem.runD hs he h1 fun F1 H1 x g s r => ?_
    cases r with
    | @lst a ws _ ha hl rr =>
      refine ⟨a, rfl, ⟨ws, .inl (.inl (s _ _ ha))⟩, q F1 H1 _ (fun H => SqL X.K H a ws) (YAt ws) g s (by rw [← rr.length]; exact walk_list) (fun H2 s2 => .inl (.inl (s2 _ _ ha))) (yields_at rr)⟩⟩
theorem si_tup {K : PySem.W.Frag} {l : Expr} {tl : TE} {f : EX} {vs : List Nat} (h : SE X l tl f vs) (hK : X.K = K := by rfl) : SI X tg l (L2.iTup K tl) (iTup f) vs := by
  subst hK
  exact ⟨pi_tup h.pe, fun e e' hl k => by unfold iTup; rw [h.sem.cong.d e e' hl k], fun F H σ e hs he ds hd R q => by
    unfold iTup at hd
    rw [Option.bind_eq_some_iff] at hd
    obtain ⟨d, h1, h2⟩ := hd
    have := asT_some h2
    subst this
    refine h.sem.runD hs he h1 fun F1 H1 x g s r => ?_
    cases r with
    | @tup a ws _ ha hl rr =>
      refine ⟨a, rfl, ⟨ws, same_sqT s ha⟩, q F1 H1 _ (fun H => SqT X.K H a ws) (YAt ws) g s (by rw [← rr.length]; exact walk_tup) (fun H2 s2 => same_sqT s2 ha) (yields_at rr)⟩⟩
theorem rngL_get {lo : Int} {n i : Nat} {d : D} (h : (rngL lo n)[i]? = some d) : d = .int (lo + i) := by
  unfold rngL at h
  rw [List.getElem?_map, Option.map_eq_some_iff] at h
  obtain ⟨k, h1, h2⟩ := h
  obtain ⟨hlt, h3⟩ := List.getElem?_eq_some_iff.mp h1
  rw [List.getElem_range] at h3
  subst h3
  exact h2.symm
theorem rngL_len (lo : Int) (n : Nat) : (rngL lo n).length = n := by unfold rngL; rw [List.length_map, List.length_range]
theorem yields_int {K : PySem.W.Frag} {F : Hp} {lo : Int} {n : Nat} : Yields K F (rngL lo n) (YFn fun i => .int (lo + i)) := fun i H1 x H2 d hd y F1 s1 s2 => by
  obtain ⟨e, y⟩ := y
  subst e
  have := rngL_get hd
  subst this
  subst y
  exact ⟨F1, .refl, s2, .int _⟩
theorem big62_ok {i : Int} (h : big62 i = true) : -(2 ^ 62) ≤ i ∧ i < 2 ^ 62 := of_decide_eq_true h
theorem si_rng1 {a : Expr} {ta : TE} {f : EX} {vs : List Nat} {p : Pos} (hm : X.mg "range" = none) (h : SE X a ta f vs) (hg : Gl X "range" := by rfl) (hs : starEach [a] X.env = [(false, eval a X.env)] := by rfl) :
    SI X tg (.Call (.Name "range" p) [a] [] pos) (L2.iRng1 (tCons ta tNil)) (iRng1 f) vs :=
  ⟨pi_range1 hg hm (pa_cons h.pe pa_nil hs) hs, fun e e' hl k => by unfold iRng1; rw [h.sem.cong.d e e' hl k], fun F H σ e hs he ds hd R q => by
    unfold iRng1 at hd
    rw [Option.bind_eq_some_iff] at hd
    obtain ⟨j, h1, h2⟩ := hd
    rw [Option.bind_eq_some_iff] at h1
    obtain ⟨d, h0, h1⟩ := h1
    have := asI_some h1
    subst this
    split at h2
    · rename_i b
      cases h2
      refine h.sem.runD hs he h0 fun F1 H1 x g s r => ?_
      cases r
      have b' := big62_ok b
      exact ⟨j, rfl, b'.1, b'.2, q F1 H1 _ (fun _ => True) (YFn fun i => .int (0 + i)) g s (by rw [rngL_len]; exact walk_range) (fun _ _ => trivial) yields_int⟩
    · cases h2⟩
theorem si_rng2 {a b : Expr} {ta tb : TE} {f f2 : EX} {vs ws : List Nat} {p : Pos} (hm : X.mg "range" = none) (h : SE X a ta f vs) (k : SE X b tb f2 ws) (hg : Gl X "range" := by rfl)
    (hs : starEach [a, b] X.env = [(false, eval a X.env), (false, eval b X.env)] := by rfl) (hs2 : starEach [b] X.env = [(false, eval b X.env)] := by rfl) (hs3 : starEach [a, b] X.env = (false, eval a X.env) :: starEach [b] X.env := by rfl) :
    SI X tg (.Call (.Name "range" p) [a, b] [] pos) (L2.iRng2 (tCons ta (tCons tb tNil))) (iRng2 f f2) (vs ++ ws) :=
  ⟨pi_range2 hg hm (pa_cons h.pe (pa_cons k.pe pa_nil hs2) hs3) hs hs2, fun e e' hl kk => by unfold iRng2; rw [h.sem.cong.d.left e e' hl kk, k.sem.cong.d.right e e' hl kk], fun F H σ e hs he ds hd R q => by
    unfold iRng2 at hd
    rw [Option.bind_eq_some_iff] at hd
    obtain ⟨i, h1, hd⟩ := hd
    rw [Option.bind_eq_some_iff] at hd
    obtain ⟨j, h2, hd⟩ := hd
    rw [Option.bind_eq_some_iff] at h1 h2
    obtain ⟨d1, h3, h4⟩ := h1
    obtain ⟨d2, h5, h6⟩ := h2
    have := asI_some h4
    subst this
    have := asI_some h6
    subst this
    split at hd
    · rename_i b
      rw [Bool.and_eq_true] at b
      cases hd
      refine h.sem.runD hs he h3 fun F1 H1 x g s r => ?_
      refine k.sem.runD s (he.mono g.ff) h5 fun F2 H2 y g2 s2 r2 => ?_
      cases r
      cases r2
      have b1 := big62_ok b.1
      have b2 := big62_ok b.2
      exact ⟨i, j, rfl, ⟨b1.1, b1.2, b2.1, b2.2⟩, q F2 H2 _ (fun _ => True) (YFn fun k => .int (i + k)) (g.trans g2) s2 (by rw [rngL_len]; exact walk_range) (fun _ _ => trivial) yields_int⟩
    · cases hd⟩
theorem zipD_len (xs ys : List D) : (zipD xs ys).length = min xs.length ys.length := by unfold zipD; rw [List.length_map, List.length_zip]
theorem zipD_get {xs ys : List D} {i : Nat} {d : D} (h : (zipD xs ys)[i]? = some d) : ∃ x y, xs[i]? = some x ∧ ys[i]? = some y ∧ d = .tup [x, y] := by
  unfold zipD at h
  rw [List.getElem?_map, Option.map_eq_some_iff] at h
  obtain ⟨p, h1, rfl⟩ := h
  rw [List.getElem?_zip_eq_some] at h1
  exact ⟨p.1, p.2, h1.1, h1.2, rfl⟩
theorem yields_pair {K : PySem.W.Frag} {F : Hp} {xs ys : List D} {f g : Nat → Option V} (h1 : ∀ i x v, xs[i]? = some x → f i = some v → Rep K F v x) (h2 : ∀ i y v, ys[i]? = some y → g i = some v → Rep K F v y) : Yields K F (zipD xs ys) (YPair f g) := fun i H1 x H2 d hd y F1 s1 s2 => by
  obtain ⟨a, b, ha, hb, rfl⟩ := zipD_get hd
  obtain ⟨T, v, w, rfl, nT, rfl, e1, e2⟩ := y
  have g := upd_grow s2 (o := .tup [v, w]) nT
  refine ⟨_, g.1, g.2, .tup (.inl (.inl upd_same)) (by show 2 ≤ sizeLine; decide) (.cons ((h1 i a v ha e1).mono (s1.trans g.1.ff)) (.cons ((h2 i b w hb e2).mono (s1.trans g.1.ff)) .nil))⟩
theorem si_zip {K : PySem.W.Frag} {a b : Expr} {ta tb : TE} {f f2 : EX} {vs ws : List Nat} {p tpos : Pos} {elts : List Expr} {kk : Nat} (hm : X.mg "zip" = none) (h : SE X a ta f vs) (k : SE X b tb f2 ws) (hg : Gl X "zip" := by rfl)
    (hs : starEach [a, b] X.env = (false, eval a X.env) :: starEach [b] X.env := by rfl) (hpl : (backTo pos (starEach [b] X.env)).any (·.1) = false := by rfl) (hs2 : starEach [b] X.env = (false, eval b X.env) :: starEach [] X.env := by rfl) (hK : X.K = K := by rfl) :
    SI X (.Tuple elts kk tpos) (.Call (.Name "zip" p) [a, b] [] pos) (L2.iZip K (tCons ta (tCons tb tNil))) (iZip f f2) (vs ++ ws) := by
  subst hK
  exact ⟨pi_zip hg hm (pa_cons h.pe (pa_cons k.pe pa_nil hs2) hs) hs hpl, fun e e' hl kk => by unfold iZip; rw [h.sem.cong.d.left e e' hl kk, k.sem.cong.d.right e e' hl kk], fun F H σ e hs he ds hd R q => by
    unfold iZip at hd
    rw [Option.bind_eq_some_iff] at hd
    obtain ⟨xs, h1, hd⟩ := hd
    rw [Option.bind_eq_some_iff] at hd
    obtain ⟨ys, h2, hd⟩ := hd
    cases hd
    rw [Option.bind_eq_some_iff] at h1 h2
    obtain ⟨d1, h3, h4⟩ := h1
    obtain ⟨d2, h5, h6⟩ := h2
    have := asL_some h4
    subst this
    have := asL_some h6
    subst this
    refine h.sem.runD hs he h3 fun F1 H1 x g s r => ?_
    refine k.sem.runD s (he.mono g.ff) h5 fun F2 H2 y g2 s2 r2 => ?_
    cases r with
    | @lst a1 v1 _ ha hl rr =>
      cases r2 with
      | @lst a2 v2 _ ha2 hl2 rr2 =>
        have ha' := g2.ff _ _ ha
        refine ⟨a1, a2, v1, v2, rfl, .inl (.inl (s2 _ _ ha')), .inl (.inl (s2 _ _ ha2)), q F2 H2 _ (fun H => SqL X.K H a1 v1 ∧ SqL X.K H a2 v2) _ (g.trans g2) s2 (walk_zip (by rw [zipD_len, rr.length, rr2.length])) (fun H3 s3 => ⟨.inl (.inl (s3 _ _ ha')), .inl (.inl (s3 _ _ ha2))⟩)
          (yields_pair (fun i x v e1 e2 => ?_) fun i x v e1 e2 => ?_)⟩
        · obtain ⟨v', e3, r3⟩ := rr.get e1
          rw [e3] at e2; cases e2
          exact r3.mono g2.ff
        · obtain ⟨v', e3, r3⟩ := rr2.get e1
          rw [e3] at e2; cases e2
          exact r3⟩
theorem si_enum {K : PySem.W.Frag} {a : Expr} {ta : TE} {f : EX} {vs : List Nat} {p tpos : Pos} {elts : List Expr} {kk : Nat} (hm : X.mg "enumerate" = none) (h : SE X a ta f vs) (hg : Gl X "enumerate" := by rfl) (hs : starEach [a] X.env = [(false, eval a X.env)] := by rfl) (hK : X.K = K := by rfl) :
    SI X (.Tuple elts kk tpos) (.Call (.Name "enumerate" p) [a] [] pos) (L2.iEnum K (tCons ta tNil)) (iEnum f) vs := by
  subst hK
  exact ⟨pi_enum hg hm (pa_cons h.pe pa_nil hs) hs, fun e e' hl k => by unfold iEnum; rw [h.sem.cong.d e e' hl k], fun F H σ e hs he ds hd R q => by
    unfold iEnum at hd
    rw [Option.bind_eq_some_iff] at hd
    obtain ⟨xs, h1, hd⟩ := hd
    cases hd
    rw [Option.bind_eq_some_iff] at h1
    obtain ⟨d1, h3, h4⟩ := h1
    have := asL_some h4
    subst this
    refine h.sem.runD hs he h3 fun F1 H1 x g s r => ?_
    cases r with
    | @lst a1 v1 _ ha hl rr =>
      refine ⟨a1, v1, rfl, .inl (.inl (s _ _ ha)), q F1 H1 _ (fun H => SqL X.K H a1 v1) _ g s (by rw [zipD_len, rngL_len, Nat.min_self, ← rr.length]; exact walk_enum) (fun H3 s3 => .inl (.inl (s3 _ _ ha)))
        (yields_pair (fun i x v e1 e2 => ?_) fun i x v e1 e2 => ?_)⟩
      · have := rngL_get e1
        subst this
        cases e2
        rw [Int.zero_add]
        exact .int _
      · obtain ⟨v', e3, r3⟩ := rr.get e1
        rw [e3] at e2; cases e2
        exact r3⟩
end

/-! ### targets -/
theorem rd_set {α : Type} (e : List (Option α)) (i j : Nat) (x : Option α) : rd (e.set i x) j = if i = j then (if i < e.length then x else none) else rd e j := by
  unfold rd
  by_cases h : i = j
  · subst h
    rw [if_pos rfl]
    by_cases hl : i < e.length
    · rw [if_pos hl, List.getElem?_set_self hl]; rfl
    · rw [if_neg hl, List.getElem?_eq_none (by rw [List.length_set]; omega)]; rfl
  · rw [if_neg h, List.getElem?_set_ne h]
theorem EnvR.set {K : PySem.W.Frag} {F : Hp} {σ : L2.St} {e : Ev} {v : V} {d : D} (he : EnvR K F σ e) (i : Nat) (r : Rep K F v d) : EnvR K F (σ.set i (some v)) (e.set i (some d)) := by
  refine ⟨by rw [List.length_set, List.length_set]; exact he.1, fun j dj h => ?_⟩
  rw [rd_set] at h
  by_cases hij : i = j
  · subst hij
    rw [if_pos rfl] at h
    split at h
    · rename_i hl
      cases h
      exact ⟨v, List.getElem?_set_self (by rw [he.1]; exact hl), r⟩
    · cases h
  · rw [if_neg hij] at h
    obtain ⟨w, h1, h2⟩ := he.2 j dj h
    exact ⟨w, by rw [List.getElem?_set_ne hij]; exact h1, h2⟩
theorem wipe_get (σ : L2.St) : ∀ (vs : List Nat) (i : Nat), (wipe σ vs)[i]? = if i ∈ vs then (σ[i]?).map (fun _ => none) else σ[i]?
  | [], i => by simp [wipe]
  | v :: vs, i => by
    unfold wipe
    by_cases h : v = i
    · subst h
      rw [if_pos (by simp)]
      by_cases hl : v < σ.length
      · rw [List.getElem?_set_self (by rw [wipe_length]; exact hl), List.getElem?_eq_getElem hl]; rfl
      · rw [List.getElem?_eq_none (by rw [List.length_set, wipe_length]; omega), List.getElem?_eq_none (by omega)]; rfl
    · rw [List.getElem?_set_ne h, wipe_get σ vs i]
      have : (i ∈ v :: vs) ↔ i ∈ vs := by simp [Ne.symm h]
      by_cases hi : i ∈ vs
      · rw [if_pos hi, if_pos (this.mpr hi)]
      · rw [if_neg hi, if_neg fun q => hi (this.mp q)]
theorem wipe_set {σ : L2.St} {vs : List Nat} {i : Nat} (h : i ∈ vs) (x : Option V) : wipe (σ.set i x) vs = wipe σ vs := by
  apply List.ext_getElem?
  intro j
  rw [wipe_get, wipe_get]
  by_cases hj : j ∈ vs
  · rw [if_pos hj, if_pos hj]
    by_cases e : i = j
    · subst e
      by_cases hl : i < σ.length
      · rw [List.getElem?_set_self hl, List.getElem?_eq_getElem hl]; rfl
      · rw [List.getElem?_eq_none (by rw [List.length_set]; omega), List.getElem?_eq_none (by omega)]
    · rw [List.getElem?_set_ne e]
  · rw [if_neg hj, if_neg hj, List.getElem?_set_ne fun (e : i = j) => hj (by rw [← e]; exact h)]
theorem wipe_wipe (σ : L2.St) (vs : List Nat) : wipe (wipe σ vs) vs = wipe σ vs := by
  apply List.ext_getElem?
  intro j
  rw [wipe_get, wipe_get]
  by_cases hj : j ∈ vs
  · rw [if_pos hj, if_pos hj, Option.map_map]; rfl
  · rw [if_neg hj, if_neg hj]
theorem wipeE_len (e : Ev) : ∀ vs : List Nat, (wipeE e vs).length = e.length
  | [] => rfl
  | v :: vs => by unfold wipeE; rw [List.length_set, wipeE_len e vs]
theorem rd_wipeE (e : Ev) : ∀ (vs : List Nat) (i : Nat), rd (wipeE e vs) i = if i ∈ vs then none else rd e i
  | [], i => by simp [wipeE]
  | v :: vs, i => by
    unfold wipeE
    rw [rd_set]
    by_cases h : v = i
    · subst h
      rw [if_pos rfl, if_pos (List.mem_cons_self : v ∈ v :: vs)]
      split <;> rfl
    · rw [if_neg h, rd_wipeE e vs i]
      have : (i ∈ v :: vs) ↔ i ∈ vs := by simp [Ne.symm h]
      by_cases hi : i ∈ vs
      · rw [if_pos hi, if_pos (this.mpr hi)]
      · rw [if_neg hi, if_neg fun q => hi (this.mp q)]
theorem EnvR.wiped {K : PySem.W.Frag} {F : Hp} {σ : L2.St} {e : Ev} (he : EnvR K F σ e) (vs : List Nat) : EnvR K F (wipe σ vs) (wipeE e vs) := by
  refine ⟨by rw [wipe_length, wipeE_len]; exact he.1, fun i d h => ?_⟩
  rw [rd_wipeE] at h
  split at h
  · cases h
  · rename_i hi
    obtain ⟨v, h1, h2⟩ := he.2 i d h
    exact ⟨v, by rw [wipe_get, if_neg hi]; exact h1, h2⟩
structure SemG (K : PySem.W.Frag) (own : List Nat) (g : L2.TG) (h : TG) : Prop where
  cong : ∀ (d : D) (e e' : Ev) (S : Nat → Prop), e.length = e'.length → (∀ j, S j → rd e j = rd e' j) → (h d e = none ∧ h d e' = none) ∨ ∃ a b, h d e = some a ∧ h d e' = some b ∧ a.length = b.length ∧ ∀ j, S j → rd a j = rd b j
  run : ∀ (F H : Hp) (σ : L2.St) (e e' : Ev) (v : V) (d : D), Same F H → EnvR K F σ e → Rep K F v d → h d e = some e' → ∀ Q : L2.St → Hp → Prop, (∀ σ', EnvR K F σ' e' → wipe σ' own = wipe σ own → Q σ' H) → g v σ H Q
structure SG' (X : Cx) (tg : Expr) (own : List Nat) (g : L2.TG) (h : TG) : Prop where
  pg : PG X tg g
  sem : SemG X.K own g h
theorem semg_name {K : PySem.W.Frag} {own : List Nat} {i : Nat} (hi : i ∈ own) : SemG K own (L2.gName i) (gName i) :=
  ⟨fun d e e' S hl k => .inr ⟨_, _, rfl, rfl, by rw [List.length_set, List.length_set]; exact hl, fun j hj => by rw [rd_set, rd_set, hl, k j hj]⟩, fun F H σ e e' v d hs he r hh Q q => by
    cases hh
    exact q _ (he.set i r) (wipe_set hi _)⟩
theorem sg_name {X : Cx} {own : List Nat} (i : Nat) {x : Str} {pos : Pos} (hN : X.N.Nodup) (hi : X.N[i]? = some x := by rfl) (hx : Loc X.env.scope x := by first | exact Or.inl rfl | exact Or.inr rfl) (ho : i ∈ own := by decide)
    (hf : X.fn x = true ∨ X.env.scope.names.lookup x = some .local := by first | exact .inl rfl | exact .inr rfl) : SG' X (.Name x pos) own (L2.gName i) (gName i) :=
  ⟨pg_name hN hi hx hf, semg_name ho⟩
/-- several names -/
structure SemGs (K : PySem.W.Frag) (own is : List Nat) (g : TGs) : Prop where
  run : ∀ (F H : Hp) (σ : L2.St) (e : Ev) (ws : List V) (ds : List D), Same F H → EnvR K F σ e → Reps K F ws ds → ds.length = is.length → ∀ Q : L2.St → Hp → Prop,
    (∀ σ', EnvR K F σ' ((is.zip ds).foldl (fun e p => e.set p.1 (some p.2)) e) → wipe σ' own = wipe σ own → Q σ' H) → g ws σ H Q
structure SGs (X : Cx) (ts : List Expr) (own is : List Nat) (g : TGs) : Prop where
  pgs : PGs X ts g
  sem : SemGs X.K own is g
theorem sgs_nil {X : Cx} {own : List Nat} : SGs X [] own [] gNil :=
  ⟨pgs_nil, ⟨fun F H σ e ws ds hs he r hl Q q => by
    cases ds with
    | nil => cases r; exact ⟨rfl, q σ he rfl⟩
    | cons _ _ => simp at hl⟩⟩
theorem sgs_cons {X : Cx} {own is : List Nat} {g : TGs} {t : Expr} {ts : List Expr} {i : Nat} (h : SG' X t own (L2.gName i) (gName i)) (ho : i ∈ own) (r : SGs X ts own is g) (hs : (assignEach (t :: ts) X.env).map (·.2) = assign t X.env :: (assignEach ts X.env).map (·.2) := by rfl) :
    SGs X (t :: ts) own (i :: is) (gCons (L2.gName i) g) :=
  ⟨pgs_cons h.pg r.pgs hs, ⟨fun F H σ e ws ds hs he rr hl Q q => by
    cases ds with
    | nil => simp at hl
    | cons d ds =>
      cases rr with
      | @cons v ws' _ _ r1 r2 =>
        refine ⟨v, ws', rfl, ?_⟩
        refine r.sem.run F H _ _ ws' ds hs (he.set i r1) r2 (by simpa using hl) Q fun σ' he' hw => q σ' he' (hw.trans (wipe_set ho _))⟩⟩
theorem foldl_set_cong (S : Nat → Prop) : ∀ (is : List Nat) (ds : List D) (e e' : Ev), e.length = e'.length → (∀ j, S j → rd e j = rd e' j) →
    ((is.zip ds).foldl (fun e p => e.set p.1 (some p.2)) e).length = ((is.zip ds).foldl (fun e p => e.set p.1 (some p.2)) e').length ∧
    ∀ j, S j → rd ((is.zip ds).foldl (fun e p => e.set p.1 (some p.2)) e) j = rd ((is.zip ds).foldl (fun e p => e.set p.1 (some p.2)) e') j
  | [], _, e, e', hl, k => ⟨hl, k⟩
  | i :: is, [], e, e', hl, k => ⟨hl, k⟩
  | i :: is, d :: ds, e, e', hl, k => foldl_set_cong S is ds (e.set i (some d)) (e'.set i (some d)) (by rw [List.length_set, List.length_set]; exact hl) fun j hj => by rw [rd_set, rd_set, hl, k j hj]
theorem sg_tup {X : Cx} {own is : List Nat} {g : TGs} {ts : List Expr} {k : Nat} {pos : Pos} {n : Nat} (hc : X.calm = true) (h : SGs X ts own is g) (hn' : is.length = n := by rfl) (hn : (assignEach ts X.env).length = n := by rfl) (hst : (assignEach ts X.env).findIdx? (·.1) = none := by rfl) :
    SG' X (.Tuple ts k pos) own (L2.gTup X.K n g) (gTup is) :=
  ⟨pg_tup hc h.pgs hn hst, fun d e e' S hl kk => by
    cases d with
    | tup ds =>
      unfold gTup
      by_cases hh : ds.length = is.length
      · right
        simp only [hh, if_true]
        exact ⟨_, _, rfl, rfl, foldl_set_cong S is ds e e' hl kk⟩
      · left
        simp only [hh, if_false]
        exact ⟨trivial, trivial⟩
    | _ => exact .inl ⟨rfl, rfl⟩, fun F H σ e e' v d hs he r hh Q q => by
    unfold gTup at hh
    cases d <;> simp only [reduceCtorEq] at hh
    rename_i ds
    split at hh
    · rename_i hl
      cases hh
      cases r with
      | @tup a ws _ ha hz rr =>
        exact ⟨a, ws, rfl, same_sqT hs ha, by rw [rr.length, hl, hn'], h.sem.run F H σ e ws ds hs he rr hl Q q⟩
    · cases hh⟩

/-! ### comprehensions -/
theorem compGo_append (g : TG) (t : TX) (f : EX) (e : Ev) : ∀ (xs ys : List D), compGo g t f e (xs ++ ys) = (compGo g t f e xs).bind fun a => (compGo g t f e ys).map fun b => a ++ b
  | [], ys => by
    simp only [List.nil_append, compGo, Option.bind_some]
    cases compGo g t f e ys <;> first | rfl | done
  | d :: xs, ys => by
    simp only [List.cons_append, compGo]
    cases g d e with
    | none => rfl
    | some e' =>
      simp only [Option.bind_some]
      cases t e' with
      | none => rfl
      | some b =>
        simp only [Option.bind_some]
        rw [compGo_append g t f e xs ys]
        cases b with
        | false => rfl
        | true =>
          simp only [if_true]
          cases f e' with
          | none => rfl
          | some o =>
            simp only [Option.bind_some]
            cases compGo g t f e xs with
            | none => rfl
            | some a =>
              simp only [Option.bind_some]
              cases compGo g t f e ys <;> rfl
theorem compGo_cong {K : PySem.W.Frag} {own : List Nat} {G : L2.TG} {g : TG} {t : TX} {f : EX} {vt vf : List Nat} (hg : SemG K own G g) (ht : Cong t vt) (hf : Cong f vf) {e e' : Ev} (hl : e.length = e'.length) (k : ∀ j, j ∈ vt ∨ j ∈ vf → rd e j = rd e' j) :
    ∀ ds : List D, compGo g t f e ds = compGo g t f e' ds
  | [] => rfl
  | d :: ds => by
    simp only [compGo]
    rw [compGo_cong hg ht hf hl k ds]
    rcases hg.cong d e e' (fun j => j ∈ vt ∨ j ∈ vf) hl k with ⟨h1, h2⟩ | ⟨a, b, h1, h2, h3, h4⟩
    · rw [h1, h2]
    · rw [h1, h2]
      simp only [Option.bind_some]
      rw [ht a b h3 fun j hj => h4 j (.inl hj), hf a b h3 fun j hj => h4 j (.inr hj)]
theorem Grow.keeps {F H F' H' : Hp} (g : Grow F H F' H') {p : Addr} {u : HO} (h : H p = some u) (hf : F p = none) : F' p = none ∧ H' p = some u := by
  refine ⟨?_, g.hh p u h⟩
  cases e : F' p with
  | none => rfl
  | some w =>
    rcases g.new p w e with z | z
    · rw [hf] at z; cases z
    · rw [h] at z; cases z
theorem sem_comp {K : PySem.W.Frag} {wi : TI} {src : IX} {vi : List Nat} {own : List Nat} {G : L2.TG} {g : TG} {tt : TT} {t : TX} {vt : List Nat} {te : TE} {f : EX} {vf : List Nat} (hi : SemI K wi src vi) (hg : SemG K own G g) (ht : SemT K tt t vt) (hf : SemE K te f vf) :
    SemE K (tLc wi G tt te own) (eComp own src g t f) (vi ++ (vt ++ vf)) := by
  refine ⟨fun e e' hl k => ?_, fun F H σ e hs he o ho Q q => ?_⟩
  · unfold eComp
    rw [hi.cong.left e e' hl k]
    cases src e' with
    | none => rfl
    | some ds =>
      simp only [Option.bind_some]
      rw [compGo_cong (e := wipeE e own) (e' := wipeE e' own) hg ht.cong hf.cong (by rw [wipeE_len, wipeE_len]; exact hl) (fun j hj => ?_) ds]
      rw [rd_wipeE, rd_wipeE]
      split
      · rfl
      · exact k j (List.mem_append_right _ (List.mem_append.mpr hj))
  · unfold eComp at ho
    rw [Option.bind_eq_some_iff] at ho
    obtain ⟨ds, h1, ho⟩ := ho
    split at ho
    · rename_i hz
      rw [Option.map_eq_some_iff] at ho
      obtain ⟨os, h2, rfl⟩ := ho
      refine hi.run F H σ e hs he ds h1 _ fun F1 H1 J Gd Y g1 s1 w hG hY => ?_
      intro D hD
      have heW : EnvR K F1 (wipe σ own) (wipeE e own) := (he.mono g1.ff).wiped own
      refine lc_it w (fun i H2 => ∃ (F2 : Hp) (acc : List V) (fp : List Addr) (oi : List OD), compGo g t f (wipeE e own) (ds.take i) = some oi ∧ Same F1 F2 ∧ Same H1 H2 ∧ Same F2 H2 ∧ (∀ a u, F2 a = some u → F1 a = some u ∨ H1 a = none) ∧ H2 D = some (.lst acc) ∧ F2 D = none ∧
        Owns K F2 H2 fp acc oi ∧ fp.Nodup ∧ D ∉ fp ∧ (∀ p ∈ fp, F2 p = none ∧ H1 p = none) ∧ acc.length ≤ i) ?_ ?_ ?_ ?_
      · have gn := new_grow s1 (o := .lst []) hD
        exact ⟨F1, [], [], [], rfl, Same.refl _, gn.1.hh, gn.2, fun a u h => .inl h, upd_same, s1.free hD, .nil, List.nodup_nil, by simp, fun p hp => by simp at hp, Nat.zero_le _⟩
      · rintro i H2 hi ⟨F2, acc, fp, oi, _, s12, _, s2, _⟩
        exact hG H2 (s12.trans s2)
      · rintro i x H2 H3 hlt ⟨F2, acc, fp, oi, hc, sF, sH, s2, nw, hDa, hDf, ow, nd, nD, new, hal⟩ hy
        obtain ⟨d, hd⟩ : ∃ d, ds[i]? = some d := ⟨ds[i], by simp [hlt]⟩
        obtain ⟨F3, g3, s3, rx⟩ := hY i H2 x H3 d hd hy F2 sF s2
        have htk : ds.take (i + 1) = ds.take i ++ [d] := by rw [List.take_add_one, hd]; rfl
        -- the item's turn at the data level
        have hgo : ∃ e' b, g d (wipeE e own) = some e' ∧ t e' = some b ∧ (b = true → ∃ o, f e' = some o ∧ compGo g t f (wipeE e own) (ds.take (i + 1)) = some (oi ++ [o])) ∧ (b = false → compGo g t f (wipeE e own) (ds.take (i + 1)) = some oi) := by
          have hall : compGo g t f (wipeE e own) (ds.take (i + 1) ++ ds.drop (i + 1)) = some os := by rw [List.take_append_drop]; exact h2
          rw [compGo_append, Option.bind_eq_some_iff] at hall
          obtain ⟨a, ha, _⟩ := hall
          have ha' := ha
          rw [htk, compGo_append, hc] at ha
          simp only [Option.bind_some, Option.map_eq_some_iff] at ha
          obtain ⟨b, hb, rfl⟩ := ha
          simp only [compGo] at hb
          rw [Option.bind_eq_some_iff] at hb
          obtain ⟨e', he', hb⟩ := hb
          rw [Option.bind_eq_some_iff] at hb
          obtain ⟨c, hc', hb⟩ := hb
          refine ⟨e', c, he', hc', fun ec => ?_, fun ec => ?_⟩
          · subst ec
            rw [if_pos rfl, Option.bind_eq_some_iff] at hb
            obtain ⟨o, ho, hb⟩ := hb
            simp only [Option.bind_some] at hb
            cases hb
            exact ⟨o, ho, ha'⟩
          · subst ec
            rw [if_neg (by decide)] at hb
            cases hb
            rw [List.append_nil] at ha'
            exact ha'
        obtain ⟨e', b, hge, hte, hyes, hno⟩ := hgo
        refine hg.run F3 H3 (wipe σ own) (wipeE e own) e' x d s3 (heW.mono (sF.trans g3.ff)) rx hge _ fun σ' he' hw => ⟨hw.trans (wipe_wipe σ own), ?_⟩
        refine ht.run F3 H3 σ' e' s3 he' b hte _ fun F4 H4 g4 s4 => ?_
        have g34 := g3.trans g4
        have d4 := g34.keeps hDa hDf
        have ow4 : Owns K F4 H4 fp acc oi := ow.mono g34.ff fun p hp => by
          obtain ⟨u, hu⟩ := ow.there p hp
          rw [hu, g34.hh p u hu]
        have new4 : ∀ p ∈ fp, F4 p = none ∧ H1 p = none := fun p hp => by
          obtain ⟨u, hu⟩ := ow.there p hp
          exact ⟨(g34.keeps hu (new p hp).1).1, (new p hp).2⟩
        have nw4 : ∀ a u, F4 a = some u → F1 a = some u ∨ H1 a = none := fun a u h => by
          rcases g34.new a u h with z | z
          · exact nw a u z
          · exact .inr (sH.free z)
        cases b with
        | false =>
          rw [if_neg (by decide)]
          exact ⟨F4, acc, fp, oi, hno rfl, sF.trans g34.ff, sH.trans g34.hh, s4, nw4, d4.2, d4.1, ow4, nd, nD, new4, Nat.le_succ_of_le hal⟩
        | true =>
          rw [if_pos rfl]
          obtain ⟨o, hfo, hc'⟩ := hyes rfl
          refine hf.run F4 H4 σ' e' s4 (he'.mono g4.ff) o hfo _ fun F5 H5 fq v r => ?_
          have g45 := r.grow
          have d5 := g45.keeps d4.2 d4.1
          refine ⟨acc, d5.2, Nat.lt_of_lt_of_le (Nat.lt_of_le_of_lt hal hlt) (by rw [← sz_eq]; exact hz), F5, acc ++ [v], fp ++ (fq ++ []), oi ++ [o], hc', sF.trans (g34.ff.trans g45.ff), ?_, ?_, ?_, upd_same, d5.1, ?_, ?_, ?_, ?_, ?_⟩
          · intro a u h
            have : a ≠ D := fun e => by rw [e, hD] at h; cases h
            rw [upd_ne this]
            exact g45.hh a u (g34.hh a u (sH a u h))
          · intro a u h
            have : a ≠ D := fun e => by rw [e, d5.1] at h; cases h
            rw [upd_ne this]
            exact r.same a u h
          · intro a u h
            rcases g45.new a u h with z | z
            · exact nw4 a u z
            · exact .inr (sH.free (g34.hh.free z))
          · have nDq : D ∉ fq := fun h => by rw [(r.new D h).2] at d4; cases d4.2
            refine Owns.append (ow4.mono g45.ff fun p hp => ?_) (.cons (r.own.mono (Same.refl _) fun p hp => ?_) .nil)
            · obtain ⟨u, hu⟩ := ow4.there p hp
              rw [upd_ne (fun (e : p = D) => nD (by rw [← e]; exact hp)), hu, g45.hh p u hu]
            · rw [upd_ne (fun (e : p = D) => nDq (by rw [← e]; exact hp))]
          · rw [List.append_nil, List.nodup_append]
            refine ⟨nd, r.nd, fun a ha b hb e => ?_⟩
            subst e
            obtain ⟨u, hu⟩ := ow4.there a ha
            rw [(r.new a hb).2] at hu; cases hu
          · rw [List.append_nil, List.mem_append]
            rintro (h | h)
            · exact nD h
            · rw [(r.new D h).2] at d4; cases d4.2
          · intro p hp
            rw [List.append_nil] at hp
            rcases List.mem_append.mp hp with hp | hp
            · obtain ⟨u, hu⟩ := ow4.there p hp
              exact ⟨(g45.keeps hu (new4 p hp).1).1, (new4 p hp).2⟩
            · exact ⟨(r.new p hp).1, sH.free (g34.hh.free (r.new p hp).2)⟩
          · rw [List.length_append]
            exact Nat.succ_le_succ hal
      · rintro H2 ⟨F2, acc, fp, oi, hc, sF, sH, s2, nw, hDa, hDf, ow, nd, nD, new, hal⟩
        rw [List.take_length, h2] at hc
        cases hc
        refine q F2 H2 (D :: fp) (.ref D) ⟨g1.trans ⟨sF, sH, nw⟩, s2, .lst hDa (Nat.le_trans hal (by rw [← sz_eq]; exact hz)) ow, List.nodup_cons.mpr ⟨nD, nd⟩, fun p hp => ?_⟩
        rcases List.mem_cons.mp hp with e | hp
        · subst e; exact ⟨hDf, g1.hh.free hD⟩
        · exact ⟨(new p hp).1, g1.hh.free (new p hp).2⟩
    · cases ho
structure STs (X : Cx) (ifs : List Expr) (t : TT) (f : TX) (vs : List Nat) : Prop where
  pts : PTs X ifs t
  sem : SemT X.K t f vs
theorem sts_nil {X : Cx} : STs X [] L2.tYes tYes [] := ⟨pts_nil, fun _ _ _ _ => rfl, fun F H σ e hs he b hb Q q => by cases hb; exact q F H .refl hs⟩
theorem sts_one {X : Cx} {c : Expr} {t : TT} {f : TX} {vs : List Nat} (h : ST X c t f vs) : STs X [c] t f vs := ⟨pts_one h.pt, h.sem⟩
section
variable {X : Cx} {elt tg iter : Expr} {ifs : List Expr} {scope : Scope} {own : List (Str × Nat)} {pos : Pos} {wi : TI} {src : IX} {vi : List Nat} {G : L2.TG} {g : TG} {tt : TT} {t : TX} {vt : List Nat} {te : TE} {f : EX} {vf : List Nat}
abbrev BK (X : Cx) (scope : Scope) (s : Shared) (H : Hp) (C : Addr) (cl : List (Str × Addr)) (fp : List Addr) : Cx := X.blk s H scope (compEnvC scope cl C X.env) fp
theorem se_comp (own : List (Str × Nat)) (hc : X.calm = true) (hN : X.N.Nodup) (hi : SI X tg iter wi src vi) (hg : ∀ s H C cl fp, SG' (BK X scope s H C cl fp) tg (own.map (·.2)) G g) (ht : ∀ s H C cl fp, STs (BK X scope s H C cl fp) ifs tt t vt)
    (he : ∀ s H C cl fp, SE (BK X scope s H C cl fp) elt te f vf) (ho : blkC X.N X.env.scope scope own = true := by decide +kernel) (hs : ∀ x, foldedSetIterable iter X.env x = pure x := by intro _; rfl) :
    SE X (.ListComp elt [{ target := tg, iter := iter, ifs := ifs, is_async := 0 }] scope pos) (tLc wi G tt te (own.map (·.2))) (eComp (own.map (·.2)) src g t f) (vi ++ (vt ++ vf)) :=
  ⟨pe_lc (own := own) hc hN hi.pi (blkOk_by ho) (fun s H C cl fp => (hg s H C cl fp).pg) (fun s H C cl fp => (ht s H C cl fp).pts) (fun s H C cl fp => (he s H C cl fp).pe) hs,
    sem_comp hi.sem (hg X.s_0 X.H_0 0 [] []).sem (ht X.s_0 X.H_0 0 [] []).sem (he X.s_0 X.H_0 0 [] []).sem⟩
end
end Z
/-! States and statements. -/
namespace Z
open PySem L2
open Classical

structure StW (K : PySem.W.Frag) (B F0 F H : Hp) (σ : L2.St) (g : G) (fps : Nat → List Addr) : Prop where
  own : ∀ i o, rd g i = some o → ∃ v, σ[i]? = some (some v) ∧ Own K F H (fps i) v o
  nd : ∀ i, rd g i ≠ none → (fps i).Nodup ∧ ∀ p ∈ fps i, F p = none ∧ B p = none
  dj : ∀ i j p, rd g i ≠ none → rd g j ≠ none → p ∈ fps i → p ∈ fps j → i = j
  len : σ.length = g.length
  ff : Same F0 F
  new : ∀ a o, F a = some o → F0 a = some o ∨ B a = none
  fh : Same F H
  bh : Same B H
def StR (K : PySem.W.Frag) (B F0 F H : Hp) (σ : L2.St) (g : G) : Prop := ∃ fps, StW K B F0 F H σ g fps

theorem rd_append_left {α : Type} {e e' : List (Option α)} {i : Nat} (h : i < e.length) : rd (e ++ e') i = rd e i := by
  unfold rd; rw [List.getElem?_append_left h]
theorem rd_append_right {α : Type} {e e' : List (Option α)} {i : Nat} (h : e.length ≤ i) : rd (e ++ e') i = rd e' (i - e.length) := by
  unfold rd; rw [List.getElem?_append_right h]
theorem rd_lt {α : Type} {e : List (Option α)} {i : Nat} {x : α} (h : rd e i = some x) : i < e.length := by
  unfold rd at h
  cases q : e[i]? with
  | none => rw [q] at h; cases h
  | some _ => exact (List.getElem?_eq_some_iff.mp q).1
theorem rd_erG (g : G) (i : Nat) : rd (erG g) i = (rd g i).map OD.er := by
  unfold rd erG
  rw [List.getElem?_map]
  cases g[i]? with
  | none => rfl
  | some o => cases o <;> rfl
theorem erG_len (g : G) : (erG g).length = g.length := by unfold erG; rw [List.length_map]
theorem fz_len (vs : List Nat) : ∀ g : G, (fz vs g).length = g.length := by
  induction vs with
  | nil => intro g; rfl
  | cons v vs ih =>
    intro g
    show (fz vs (g.modify v _)).length = _
    rw [ih, List.length_modify]
theorem rd_modify (g : G) (v i : Nat) (f : OD → OD) : rd (g.modify v (Option.map f)) i = if v = i then (rd g i).map f else rd g i := by
  unfold rd
  rw [List.getElem?_modify]
  by_cases h : v = i
  · rw [if_pos h]
    cases g[i]? with
    | none => simp [h]
    | some o => cases o <;> simp [h]
  · rw [if_neg h]
    cases g[i]? with
    | none => simp [h]
    | some o => simp [h]
theorem OD.er_er (o : OD) : (OD.frz o.er).er = o.er := rfl
theorem rd_fz (vs : List Nat) : ∀ (g : G) (i : Nat), rd (fz vs g) i = if i ∈ vs then (rd g i).map (fun o => .frz o.er) else rd g i := by
  induction vs with
  | nil => intro g i; simp [fz]
  | cons v vs ih =>
    intro g i
    show rd (fz vs (g.modify v _)) i = _
    rw [ih, rd_modify]
    by_cases h1 : v = i
    · subst h1
      rw [if_pos rfl, if_pos (List.mem_cons_self : v ∈ v :: vs)]
      by_cases h2 : v ∈ vs
      · rw [if_pos h2, Option.map_map]; rfl
      · rw [if_neg h2]
    · rw [if_neg h1]
      have : (i ∈ v :: vs) ↔ i ∈ vs := by simp [Ne.symm h1]
      by_cases hi : i ∈ vs
      · rw [if_pos hi, if_pos (this.mpr hi)]
      · rw [if_neg hi, if_neg fun q => hi (this.mp q)]

section
variable {K : PySem.W.Frag} {B F0 F H : Hp} {σ : L2.St} {g : G} {fps : Nat → List Addr}
theorem StW.there (s : StW K B F0 F H σ g fps) {i : Nat} (h : rd g i ≠ none) {p : Addr} (hp : p ∈ fps i) : ∃ u, H p = some u := by
  obtain ⟨o, ho⟩ := Option.ne_none_iff_exists'.mp h
  obtain ⟨v, a, b⟩ := s.own i o ho
  exact b.there p hp
/-- names moved about -/
theorem StW.re (s : StW K B F0 F H σ g fps) {σ' : L2.St} {g' : G} (m : Nat → Nat) (hl : σ'.length = g'.length) (hm : ∀ j o, rd g' j = some o → rd g (m j) = some o ∧ ∀ v, σ[m j]? = some (some v) → σ'[j]? = some (some v))
    (hi : ∀ j k, rd g' j ≠ none → rd g' k ≠ none → m j = m k → j = k) : StW K B F0 F H σ' g' (fun j => fps (m j)) := by
  have nn : ∀ j, rd g' j ≠ none → rd g (m j) ≠ none := fun j h => by
    obtain ⟨o, ho⟩ := Option.ne_none_iff_exists'.mp h
    rw [(hm j o ho).1]; simp
  refine ⟨fun j o h => ?_, fun j h => s.nd (m j) (nn j h), fun j k p hj hk a b => hi j k hj hk (s.dj (m j) (m k) p (nn j hj) (nn k hk) a b), hl, s.ff, s.new, s.fh, s.bh⟩
  obtain ⟨a, b⟩ := hm j o h
  obtain ⟨v, c, d⟩ := s.own (m j) o a
  exact ⟨v, b v c, d⟩
theorem StR.re (s : StR K B F0 F H σ g) {σ' : L2.St} {g' : G} (m : Nat → Nat) (hl : σ'.length = g'.length) (hm : ∀ j o, rd g' j = some o → rd g (m j) = some o ∧ ∀ v, σ[m j]? = some (some v) → σ'[j]? = some (some v))
    (hi : ∀ j k, rd g' j ≠ none → rd g' k ≠ none → m j = m k → j = k) : StR K B F0 F H σ' g' := let ⟨_, w⟩ := s; ⟨_, w.re m hl hm hi⟩
theorem StW.grow {F1 H1 : Hp} (s : StW K B F0 F H σ g fps) (gr : Grow F H F1 H1) (sm : Same F1 H1) : StW K B F0 F1 H1 σ g fps := by
  refine ⟨fun i o h => ?_, fun i h => ⟨(s.nd i h).1, fun p hp => ?_⟩, s.dj, s.len, s.ff.trans gr.ff, fun a o e => ?_, sm, s.bh.trans gr.hh⟩
  · obtain ⟨v, a, b⟩ := s.own i o h
    exact ⟨v, a, b.mono gr.ff fun p hp => by
      obtain ⟨u, hu⟩ := b.there p hp
      rw [hu, gr.hh p u hu]⟩
  · obtain ⟨u, hu⟩ := s.there h hp
    exact ⟨(gr.keeps hu ((s.nd i h).2 p hp).1).1, ((s.nd i h).2 p hp).2⟩
  · rcases gr.new a o e with z | z
    · exact s.new a o z
    · exact .inr (s.bh.free z)
theorem StR.grow {F1 H1 : Hp} (s : StR K B F0 F H σ g) (gr : Grow F H F1 H1) (sm : Same F1 H1) : StR K B F0 F1 H1 σ g := let ⟨_, w⟩ := s; ⟨_, w.grow gr sm⟩
theorem StR.base {F1 : Hp} (s : StR K B F1 F H σ g) (ff : Same F0 F1) (new : ∀ a o, F1 a = some o → F0 a = some o ∨ B a = none) : StR K B F0 F H σ g :=
  let ⟨fps, w⟩ := s
  ⟨fps, w.own, w.nd, w.dj, w.len, ff.trans w.ff, fun a o e => by
    rcases w.new a o e with z | z
    · exact new a o z
    · exact .inr z, w.fh, w.bh⟩
/-- a new value beside the state -/
theorem StW.put (s : StW K B F0 F H σ g fps) {fp : List Addr} {v : V} {o : OD} (ow : Own K F H fp v o) (nd : fp.Nodup) (new : ∀ p ∈ fp, F p = none ∧ B p = none) (dj : ∀ i p, rd g i ≠ none → p ∈ fps i → p ∉ fp) :
    StR K B F0 F H (σ ++ [some v]) (g ++ [some o]) := by
  have rn : ∀ i, rd (g ++ [some o]) i = if i = g.length then some o else rd g i := fun i => by
    by_cases hi : i < g.length
    · rw [rd_append_left hi, if_neg (by omega)]
    · rw [rd_append_right (by omega)]
      by_cases e : i = g.length
      · subst e; rw [if_pos rfl, Nat.sub_self]; rfl
      · rw [if_neg e]
        unfold rd
        rw [List.getElem?_eq_none (by simp; omega), List.getElem?_eq_none (by omega)]
  refine ⟨fun i => if i = g.length then fp else fps i, fun i o' h => ?_, fun i h => ?_, fun i j p hi hj a b => ?_, by rw [List.length_append, List.length_append, s.len]; rfl, s.ff, s.new, s.fh, s.bh⟩
  · rw [rn] at h
    by_cases e : i = g.length
    · rw [if_pos e] at h
      simp only [if_pos e]
      cases h
      exact ⟨v, by rw [e, ← s.len, List.getElem?_append_right (Nat.le_refl _), Nat.sub_self]; rfl, ow⟩
    · rw [if_neg e] at h
      simp only [if_neg e]
      obtain ⟨w, a, b⟩ := s.own i o' h
      exact ⟨w, by rw [List.getElem?_append_left (by rw [s.len]; exact rd_lt h)]; exact a, b⟩
  · rw [rn] at h
    by_cases e : i = g.length
    · simp only [if_pos e]; exact ⟨nd, new⟩
    · rw [if_neg e] at h
      simp only [if_neg e]; exact s.nd i h
  · by_cases e : i = g.length
    · simp only [if_pos e] at a
      by_cases e' : j = g.length
      · rw [e, e']
      · simp only [if_neg e'] at b
        rw [rn, if_neg e'] at hj
        exact (dj j p hj b a).elim
    · simp only [if_neg e] at a
      rw [rn, if_neg e] at hi
      by_cases e' : j = g.length
      · simp only [if_pos e'] at b
        exact (dj i p hi a b).elim
      · simp only [if_neg e'] at b
        rw [rn, if_neg e'] at hj
        exact s.dj i j p hi hj a b
end

/-- the view of the names vs: what they hold, read-only -/
theorem StW.view {K : PySem.W.Frag} {B F0 F H : Hp} {σ : L2.St} {g : G} {p : L2.St} {q : G} {fps : Nat → List Addr} (s : StW K B F0 F H (σ ++ p) (g ++ q) fps) (hl : σ.length = g.length) (vs : List Nat) :
    ∃ (F1 : Hp) (e : Ev), Same F F1 ∧ Same F1 H ∧ EnvR K F1 σ e ∧ (∀ {α : Type} (f : Ev → α), Cong f vs → f e = f (erG g)) ∧
      (∀ {F' H' : Hp}, Grow F1 H F' H' → Same F' H' → StW K B F0 F' H' (σ ++ p) (fz vs g ++ q) (fun i => if i < g.length ∧ i ∈ vs then [] else fps i)) := by
  let S : Addr → Prop := fun a => ∃ i, i ∈ vs ∧ i < g.length ∧ rd (g ++ q) i ≠ none ∧ a ∈ fps i
  have sub : ∀ a, S a → F a = none := fun a ⟨i, _, _, hn, ha⟩ => ((s.nd i hn).2 a ha).1
  have sB : ∀ a, S a → B a = none := fun a ⟨i, _, _, hn, ha⟩ => ((s.nd i hn).2 a ha).2
  let e : Ev := (List.range g.length).map fun i => if i ∈ vs then rd (erG g) i else none
  have el : e.length = g.length := by show (List.map _ _).length = _; rw [List.length_map, List.length_range]
  have er : ∀ i, rd e i = if i < g.length ∧ i ∈ vs then rd (erG g) i else none := fun i => by
    show rd (List.map _ _) i = _
    unfold rd
    rw [List.getElem?_map]
    by_cases hi : i < g.length
    · rw [List.getElem?_range hi]
      simp only [Option.map_some, Option.join_some]
      by_cases hv : i ∈ vs
      · rw [if_pos hv, if_pos ⟨hi, hv⟩]
      · rw [if_neg hv, if_neg fun z => hv z.2]
    · rw [List.getElem?_eq_none (by rw [List.length_range]; omega), if_neg fun z => hi z.1]
      rfl
  have own : ∀ i o, i ∈ vs → i < g.length → rd g i = some o → ∃ v, σ[i]? = some (some v) ∧ Rep K (ext F H S) v o.er := fun i o hv hi ho => by
    have ho' : rd (g ++ q) i = some o := by rw [rd_append_left hi]; exact ho
    obtain ⟨v, a, b⟩ := s.own i o ho'
    rw [List.getElem?_append_left (by rw [hl]; exact hi)] at a
    refine ⟨v, a, b.froze (ext_ff sub) fun x hx => ?_⟩
    unfold ext
    rw [if_pos ⟨i, hv, hi, by rw [ho']; simp, hx⟩]
  refine ⟨ext F H S, e, ext_ff sub, ext_same s.fh, ⟨by rw [el]; exact hl, fun i d h => ?_⟩, fun f hf => hf _ _ (by rw [el, erG_len]) fun j hj => ?_, fun {F' H'} gr sm => ?_⟩
  · rw [er] at h
    split at h
    · rename_i hi
      rw [rd_erG, Option.map_eq_some_iff] at h
      obtain ⟨o, ho, rfl⟩ := h
      exact own i o hi.2 hi.1 ho
    · cases h
  · rw [er]
    by_cases hj' : j < g.length
    · rw [if_pos ⟨hj', hj⟩]
    · rw [if_neg fun z => hj' z.1]
      unfold rd
      rw [List.getElem?_eq_none (by rw [erG_len]; omega)]; rfl
  · have hlen := s.len
    have rdq : ∀ i, rd (fz vs g ++ q) i = if i < g.length ∧ i ∈ vs then (rd (g ++ q) i).map (fun o => .frz o.er) else rd (g ++ q) i := fun i => by
      by_cases hi : i < g.length
      · rw [rd_append_left (by rw [fz_len]; exact hi), rd_append_left hi, rd_fz]
        by_cases hv : i ∈ vs
        · rw [if_pos hv, if_pos ⟨hi, hv⟩]
        · rw [if_neg hv, if_neg fun z => hv z.2]
      · rw [rd_append_right (by rw [fz_len]; omega), rd_append_right (by omega), fz_len, if_neg fun z => hi z.1]
    have nn : ∀ i, rd (fz vs g ++ q) i ≠ none → rd (g ++ q) i ≠ none := fun i h z => by
      rw [rdq, z] at h
      split at h <;> exact h rfl
    refine ⟨fun i o h => ?_, fun i h => ?_, fun i j x hi hj a b => ?_, ?_, ?_, ?_, sm, s.bh.trans gr.hh⟩
    · rw [rdq] at h
      by_cases hc : i < g.length ∧ i ∈ vs
      · rw [if_pos hc, Option.map_eq_some_iff] at h
        obtain ⟨o', ho, rfl⟩ := h
        rw [rd_append_left hc.1] at ho
        obtain ⟨v, a, b⟩ := own i o' hc.2 hc.1 ho
        simp only [if_pos hc]
        exact ⟨v, by rw [List.getElem?_append_left (by rw [hl]; exact hc.1)]; exact a, .frz (b.mono gr.ff)⟩
      · rw [if_neg hc] at h
        simp only [if_neg hc]
        obtain ⟨v, a, b⟩ := s.own i o h
        refine ⟨v, a, b.mono ((ext_ff sub).trans gr.ff) fun x hx => ?_⟩
        obtain ⟨u, hu⟩ := b.there x hx
        rw [hu, gr.hh x u hu]
    · by_cases hc : i < g.length ∧ i ∈ vs
      · simp only [if_pos hc]
        exact ⟨List.nodup_nil, fun p hp => by simp at hp⟩
      · simp only [if_neg hc]
        have hn := nn i h
        refine ⟨(s.nd i hn).1, fun x hx => ⟨?_, ((s.nd i hn).2 x hx).2⟩⟩
        obtain ⟨u, hu⟩ := s.there hn hx
        refine (gr.keeps hu ?_).1
        unfold ext
        rw [if_neg ?_]
        · exact ((s.nd i hn).2 x hx).1
        · rintro ⟨j, hj, hj', hjn, hx'⟩
          have := s.dj i j x hn hjn hx hx'
          subst this
          exact hc ⟨hj', hj⟩
    · by_cases hc : i < g.length ∧ i ∈ vs
      · simp only [if_pos hc] at a; simp at a
      · by_cases hd : j < g.length ∧ j ∈ vs
        · simp only [if_pos hd] at b; simp at b
        · simp only [if_neg hc] at a
          simp only [if_neg hd] at b
          exact s.dj i j x (nn i hi) (nn j hj) a b
    · rw [List.length_append, List.length_append] at hlen ⊢
      rw [fz_len]; exact hlen
    · exact (s.ff.trans (ext_ff sub)).trans gr.ff
    · intro a o e
      rcases gr.new a o e with z | z
      · unfold ext at z
        split at z
        · rename_i hs; exact .inr (sB a hs)
        · exact s.new a o z
      · exact .inr (s.bh.free z)

/-! ### what is taken -/
structure SemO (K : PySem.W.Frag) (t : TE) (o : OX) : Prop where
  run : ∀ (B F0 F H : Hp) (σ : L2.St) (g : G) (p : L2.St) (q : G), σ.length = g.length → p.length = q.length → StR K B F0 F H (σ ++ p) (g ++ q) → ∀ r g', o g = some (r, g') → ∀ Q : VK,
    (g'.length = g.length → ∀ F' H' v, Same H H' → StR K B F0 F' H' (σ ++ p ++ [some v]) (g' ++ q ++ [some r]) → Q v H') → t σ H Q
structure SO (X : Cx) (e : Expr) (t : TE) (o : OX) : Prop where
  pe : PE X e t
  sem : SemO X.K t o
theorem sem_oE {K : PySem.W.Frag} {t : TE} {f : EX} {vs : List Nat} (h : SemE K t f vs) : SemO K t (oE vs f) := ⟨fun B F0 F H σ g p q hl hp s r g' ho Q k => by
  obtain ⟨fps, s⟩ := s
  unfold oE at ho
  rw [Option.map_eq_some_iff] at ho
  obtain ⟨o, h1, h2⟩ := ho
  cases h2
  obtain ⟨F1, e, sf, s1, he, hf, fin⟩ := s.view hl vs
  refine h.run F1 H σ e s1 he r (by rw [hf f h.cong]; exact h1) Q fun F' H' fp v rs => ?_
  have ap : ∀ i x, rd (g ++ q) i ≠ none → x ∈ fps i → x ∉ fp := fun i x hi hx hb => by
    obtain ⟨u, hu⟩ := s.there hi hx
    rw [(rs.new x hb).2] at hu
    cases hu
  cases hc : r.closed with
  | true =>
    rw [hc, if_pos rfl] at k
    have s' := s.grow ⟨Same.refl _, rs.grow.hh, fun _ _ e => .inl e⟩ (s.fh.trans rs.grow.hh)
    exact k rfl F H' v rs.grow.hh (s'.put (rs.own.of_closed hc) rs.nd (fun x hx => ⟨s.fh.free (rs.new x hx).2, s.bh.free (rs.new x hx).2⟩) ap)
  | false =>
    rw [hc, if_neg (by decide)] at k
    have s' := fin rs.grow rs.same
    refine k (fz_len _ _) F' H' v rs.grow.hh (s'.put rs.own rs.nd (fun x hx => ⟨(rs.new x hx).1, s.bh.free (rs.new x hx).2⟩) fun i x hi hx => ?_)
    by_cases hc' : i < g.length ∧ i ∈ vs
    · simp only [if_pos hc'] at hx; simp at hx
    · simp only [if_neg hc'] at hx
      refine ap i x (fun z => hi ?_) hx
      by_cases hi' : i < g.length
      · rw [rd_append_left hi'] at z
        rw [rd_append_left (by rw [fz_len]; exact hi'), rd_fz, z]
        split <;> rfl
      · rw [rd_append_right (by omega)] at z
        rw [rd_append_right (by rw [fz_len]; omega), fz_len]
        exact z⟩
theorem Cong.sub {α : Type} {f : Ev → α} {vs ws : List Nat} (h : Cong f vs) (hs : vs.all (fun j => ws.contains j) = true) : Cong f ws := fun e e' hl k => h e e' hl fun j hj => k j (by
  have := List.all_eq_true.mp hs j hj
  simpa using this)
theorem SemE.sub {K : PySem.W.Frag} {t : TE} {f : EX} {vs ws : List Nat} (h : SemE K t f vs) (hs : vs.all (fun j => ws.contains j) = true) : SemE K t f ws := ⟨h.cong.sub hs, h.run⟩
theorem so_e {X : Cx} {e : Expr} {t : TE} {f : EX} {vs : List Nat} (ws : List Nat) (h : SE X e t f vs) (hs : vs.all (fun j => ws.contains j) = true := by rfl) : SO X e t (oE ws f) := ⟨h.pe, sem_oE (h.sem.sub hs)⟩
theorem rd_snoc {α : Type} (e : List (Option α)) (x : Option α) (i : Nat) : rd (e ++ [x]) i = if i = e.length then x else rd e i := by
  by_cases hi : i < e.length
  · rw [rd_append_left hi, if_neg (by omega)]
  · rw [rd_append_right (by omega)]
    by_cases h : i = e.length
    · subst h; rw [if_pos rfl, Nat.sub_self]; rfl
    · rw [if_neg h]
      unfold rd
      rw [List.getElem?_eq_none (by simp; omega), List.getElem?_eq_none (by omega)]
theorem get_snoc (e : L2.St) (x : Option V) (i : Nat) : (e ++ [x])[i]? = if i = e.length then some x else e[i]? := by
  by_cases hi : i < e.length
  · rw [List.getElem?_append_left hi, if_neg (by omega)]
  · rw [List.getElem?_append_right (by omega)]
    by_cases h : i = e.length
    · subst h; rw [if_pos rfl, Nat.sub_self]; rfl
    · rw [if_neg h, List.getElem?_eq_none (by simp; omega), List.getElem?_eq_none (by omega)]
theorem sem_oMv {K : PySem.W.Frag} (i : Nat) : SemO K (tVar i) (oMv i) := ⟨fun B F0 F H σ g p q hl hp s r g' ho Q k => by
  unfold oMv at ho
  rw [Option.map_eq_some_iff] at ho
  obtain ⟨o, h1, h2⟩ := ho
  cases h2
  have hi := rd_lt h1
  obtain ⟨fps, s⟩ := s
  have h1' : rd (g ++ q) i = some r := by rw [rd_append_left hi]; exact h1
  obtain ⟨v, a, b⟩ := s.own i r h1'
  have hv : σ[i]? = some (some v) := by rw [List.getElem?_append_left (by omega)] at a; exact a
  have e1 : ∀ j, rd (g.set i none ++ q) j = if j = i then none else rd (g ++ q) j := fun j => by
    rw [show g.set i none ++ q = (g ++ q).set i none by rw [List.set_append_left _ _ hi], rd_set]
    by_cases hj : i = j
    · rw [if_pos hj, if_pos hj.symm]; split <;> rfl
    · rw [if_neg hj, if_neg (Ne.symm hj)]
  refine ⟨v, hv, k (by rw [List.length_set]) F H v (Same.refl _) ?_⟩
  have hN : (g.set i none ++ q).length = (σ ++ p).length := by rw [List.length_append, List.length_append, List.length_set]; omega
  refine StR.re ⟨fps, s⟩ (fun j => if j = (σ ++ p).length then i else j) (by simp only [List.length_append, List.length_set, List.length_singleton]; omega) (fun j o hj => ?_) fun j j' hj hj' e => ?_
  · rw [rd_snoc, hN] at hj
    by_cases e : j = (σ ++ p).length
    · rw [if_pos e] at hj ⊢
      cases hj
      exact ⟨h1', fun w hw => by rw [get_snoc, if_pos e]; rw [a] at hw; exact hw⟩
    · rw [if_neg e] at hj ⊢
      rw [e1] at hj
      split at hj
      · cases hj
      · exact ⟨hj, fun w hw => by rw [get_snoc, if_neg e]; exact hw⟩
  · have ni : ∀ j, rd (g.set i none ++ q ++ [some r]) j ≠ none → j ≠ (σ ++ p).length → j ≠ i := fun j h e z => by
      rw [rd_snoc, hN, if_neg e, e1, if_pos z] at h
      exact h rfl
    by_cases ea : j = (σ ++ p).length
    · by_cases eb : j' = (σ ++ p).length
      · rw [ea, eb]
      · simp only [if_pos ea, if_neg eb] at e
        exact (ni j' hj' eb e.symm).elim
    · by_cases eb : j' = (σ ++ p).length
      · simp only [if_neg ea, if_pos eb] at e
        exact (ni j hj ea e).elim
      · simp only [if_neg ea, if_neg eb] at e
        exact e⟩
theorem so_mv {X : Cx} (i : Nat) {x : Str} {pos : Pos} (hN : X.N[i]? = some x := by rfl) (hv : Vis X.env.scope x := by first | exact Or.inl rfl | exact Or.inr (Or.inl rfl) | exact Or.inr (Or.inr rfl)) (hd : (x == ("__debug__" : Str)) = false := by decide)
    (hcd : (x == ("__classdict__" : Str)) = false := by decide) : SO X (.Name x pos) (tVar i) (oMv i) := ⟨pe_var hN hv hd hcd, sem_oMv i⟩
end Z
namespace Z
open PySem L2
open Classical

structure SemOs (K : PySem.W.Frag) (t : TA) (os : List OX) : Prop where
  run : ∀ (B F0 F H : Hp) (σ : L2.St) (g : G) (p : L2.St) (q : G), σ.length = g.length → p.length = q.length → StR K B F0 F H (σ ++ p) (g ++ q) → ∀ rs g', oList os g = some (rs, g') → ∀ Q : List V → Hp → Prop,
    (g'.length = g.length → ∀ F' H' ws, Same H H' → ws.length = rs.length → StR K B F0 F' H' (σ ++ (p ++ ws.map some)) (g' ++ (q ++ rs.map some)) → Q ws H') → t σ H Q
structure SOs (X : Cx) (es : List Expr) (t : TA) (os : List OX) : Prop where
  pa : PA X es t
  sem : SemOs X.K t os
theorem sos_nil {X : Cx} : SOs X [] tNil [] := ⟨pa_nil, ⟨fun B F0 F H σ g p q hl hp s rs g' ho Q k => by
  cases ho
  exact k rfl F H [] (Same.refl _) rfl (by simpa using s)⟩⟩
theorem sos_cons {X : Cx} {a : Expr} {es : List Expr} {ta : TE} {o : OX} {t : TA} {os : List OX} (ha : SO X a ta o) (hr : SOs X es t os) (hst : starEach (a :: es) X.env = (false, eval a X.env) :: starEach es X.env := by rfl) :
    SOs X (a :: es) (tCons ta t) (o :: os) := ⟨pa_cons ha.pe hr.pa hst, ⟨fun B F0 F H σ g p q hl hp s rs g' ho Q k => by
  simp only [oList] at ho
  rw [Option.bind_eq_some_iff] at ho
  obtain ⟨⟨r, g1⟩, h1, ho⟩ := ho
  rw [Option.bind_eq_some_iff] at ho
  obtain ⟨⟨rs', g2⟩, h2, ho⟩ := ho
  cases ho
  refine ha.sem.run B F0 F H σ g p q hl hp s r g1 h1 _ fun l1 F1 H1 v s1 st1 => ?_
  refine hr.sem.run B F0 F1 H1 σ g1 (p ++ [some v]) (q ++ [some r]) (by omega) (by simp [hp]) (by rw [← List.append_assoc, ← List.append_assoc]; exact st1) rs' g2 h2 _ fun l2 F2 H2 ws s2 lw st2 => ?_
  refine k (show g2.length = g.length by omega) F2 H2 (v :: ws) (s1.trans s2) (by simp [lw]) ?_
  simp only [List.append_assoc, List.singleton_append] at st2
  simpa only [List.map_cons] using st2⟩⟩

/-- from beside the state into a name -/
theorem StR.st1 {K : PySem.W.Frag} {B F0 F H : Hp} {σ : L2.St} {g : G} {p : L2.St} {q : G} {w : V} {r : OD} (hl : σ.length = g.length) (s : StR K B F0 F H (σ ++ some w :: p) (g ++ some r :: q)) (i : Nat) : StR K B F0 F H (σ.set i (some w) ++ p) (g.set i (some r) ++ q) := by
  have hs := s
  obtain ⟨fps, sw⟩ := hs
  have hlen := sw.len
  simp only [List.length_append, List.length_cons] at hlen
  have e1 : ∀ j, rd (g ++ some r :: q) j = if j < g.length then rd g j else if j = g.length then some r else rd q (j - g.length - 1) := fun j => by
    by_cases h1 : j < g.length
    · rw [rd_append_left h1, if_pos h1]
    · rw [rd_append_right (by omega), if_neg h1]
      by_cases h2 : j = g.length
      · rw [if_pos h2, h2, Nat.sub_self]; rfl
      · rw [if_neg h2]
        obtain ⟨m, hm⟩ : ∃ m, j - g.length = m + 1 := ⟨j - g.length - 1, by omega⟩
        rw [hm]; rfl
  have e2 : ∀ j, (σ ++ some w :: p)[j]? = if j < g.length then σ[j]? else if j = g.length then some (some w) else p[j - g.length - 1]? := fun j => by
    by_cases h1 : j < g.length
    · rw [List.getElem?_append_left (by omega), if_pos h1]
    · rw [List.getElem?_append_right (by omega), if_neg h1, hl]
      by_cases h2 : j = g.length
      · rw [if_pos h2, h2, Nat.sub_self]; rfl
      · rw [if_neg h2]
        obtain ⟨m, hm⟩ : ∃ m, j - g.length = m + 1 := ⟨j - g.length - 1, by omega⟩
        rw [hm]; rfl
  have e3 : ∀ j, rd (g.set i (some r) ++ q) j = if j < g.length then (if i = j then some r else rd g j) else rd q (j - g.length) := fun j => by
    by_cases h1 : j < g.length
    · rw [rd_append_left (by rw [List.length_set]; exact h1), if_pos h1, rd_set]
      by_cases h2 : i = j
      · rw [if_pos h2, if_pos h2, if_pos (by omega)]
      · rw [if_neg h2, if_neg h2]
    · rw [rd_append_right (by rw [List.length_set]; omega), if_neg h1, List.length_set]
  have e4 : ∀ j, (σ.set i (some w) ++ p)[j]? = if j < g.length then (if i = j then some (some w) else σ[j]?) else p[j - g.length]? := fun j => by
    by_cases h1 : j < g.length
    · rw [List.getElem?_append_left (by rw [List.length_set]; omega), if_pos h1]
      by_cases h2 : i = j
      · rw [if_pos h2, h2, List.getElem?_set_self (by omega)]
      · rw [if_neg h2, List.getElem?_set_ne h2]
    · rw [List.getElem?_append_right (by rw [List.length_set]; omega), if_neg h1, List.length_set, hl]
  refine s.re (fun j => if j < g.length then (if i = j then g.length else j) else j + 1) (by simp only [List.length_append, List.length_set]; omega) (fun j o hj => ?_) fun j k hj hk e => ?_
  · rw [e3] at hj
    by_cases h1 : j < g.length
    · rw [if_pos h1] at hj
      by_cases h2 : i = j
      · rw [if_pos h2] at hj
        simp only [if_pos h1, if_pos h2]
        refine ⟨by rw [e1, if_neg (by omega), if_pos rfl]; exact hj, fun v hv => ?_⟩
        rw [e2, if_neg (by omega), if_pos rfl] at hv
        rw [e4, if_pos h1, if_pos h2]; exact hv
      · rw [if_neg h2] at hj
        simp only [if_pos h1, if_neg h2]
        refine ⟨by rw [e1, if_pos h1]; exact hj, fun v hv => ?_⟩
        rw [e2, if_pos h1] at hv
        rw [e4, if_pos h1, if_neg h2]; exact hv
    · rw [if_neg h1] at hj
      simp only [if_neg h1]
      have h3 : j + 1 - g.length - 1 = j - g.length := by omega
      refine ⟨by rw [e1, if_neg (by omega), if_neg (by omega), h3]; exact hj, fun v hv => ?_⟩
      rw [e2, if_neg (by omega), if_neg (by omega), h3] at hv
      rw [e4, if_neg h1]; exact hv
  · have gj : ∀ n, (if n < g.length then (if i = n then g.length else n) else n + 1) = (if n < g.length then (if i = n then g.length else n) else n + 1) := fun _ => rfl
    by_cases a1 : j < g.length <;> by_cases a2 : k < g.length <;> by_cases a3 : i = j <;> by_cases a4 : i = k <;> simp only [a1, a2, a3, a4, if_true, if_false] at e <;> first | omega | (subst a3; first | omega | (simp only [a4, if_false, if_true] at e; omega)) | (subst a4; first | omega | (simp only [a3, if_false, if_true] at e; omega))
theorem StR.pre {K : PySem.W.Frag} {B F0 F H : Hp} {σ : L2.St} {g : G} {p : L2.St} {q : G} (hl : σ.length = g.length) (s : StR K B F0 F H (σ ++ p) (g ++ q)) : StR K B F0 F H σ g :=
  s.re id hl (fun j o hj => ⟨by rw [id, rd_append_left (rd_lt hj)]; exact hj, fun v hv => by
    rw [id, List.getElem?_append_left (by rw [hl]; exact rd_lt hj)] at hv; exact hv⟩) fun j k _ _ e => e
theorem StR.suf {K : PySem.W.Frag} {B F0 F H : Hp} {σ : L2.St} {g : G} {p : L2.St} {q : G} (hl : σ.length = g.length) (s : StR K B F0 F H (σ ++ p) (g ++ q)) : StR K B F0 F H p q := by
  have hp : p.length = q.length := by
    obtain ⟨_, w⟩ := s
    have := w.len
    simp only [List.length_append] at this
    omega
  exact s.re (fun j => g.length + j) hp (fun j o hj => ⟨by rw [rd_append_right (by omega), Nat.add_sub_cancel_left]; exact hj, fun v hv => by
    rw [List.getElem?_append_right (by omega), hl, Nat.add_sub_cancel_left] at hv; exact hv⟩) fun j k _ _ e => by omega
theorem StR.setAll {K : PySem.W.Frag} {B F0 F H : Hp} : ∀ (is : List Nat) (rs : List OD) (ws : List V) {σ : L2.St} {g : G} {p : L2.St} {q : G}, σ.length = g.length → is.length = rs.length → ws.length = rs.length → StR K B F0 F H (σ ++ (ws.map some ++ p)) (g ++ (rs.map some ++ q)) →
    StR K B F0 F H ((is.zip ws).foldl (fun s a => s.set a.1 (some a.2)) σ ++ p) (putAll is rs g ++ q)
  | [], [], [], σ, g, p, q, _, _, _, s => by simpa [putAll] using s
  | i :: is, r :: rs, w :: ws, σ, g, p, q, hl, h1, h2, s => by
    simp only [List.map_cons, List.cons_append] at s
    have s' := s.st1 hl i
    exact StR.setAll is rs ws (σ := σ.set i (some w)) (g := g.set i (some r)) (by rw [List.length_set, List.length_set]; exact hl) (by simpa using h1) (by simpa using h2) s'
  | [], _ :: _, _, _, _, _, _, _, h, _, _ => by simp at h
  | _ :: _, [], _, _, _, _, _, _, h, _, _ => by simp at h
  | _, [], _ :: _, _, _, _, _, _, _, h, _ => by simp at h
  | _, _ :: _, [], _, _, _, _, _, _, h, _ => by simp at h

/-! ### statements -/
structure Link (K : PySem.W.Frag) (B F0 : Hp) (P : Post) (D : Ends) : Prop where
  nx : ∀ F H σ g, StR K B F0 F H σ g → P.nx g → D.nx σ H
  rt : ∀ F H v r, StR K B F0 F H [some v] [some r] → P.rt r → D.rt v H
  bk : ∀ F H σ g, StR K B F0 F H σ g → P.bk g → D.bk σ H
  ct : ∀ F H σ g, StR K B F0 F H σ g → P.ct g → D.ct σ H
structure SemS (K : PySem.W.Frag) (t : TS) (w : S) : Prop where
  run : ∀ (B F0 F H : Hp) (σ : L2.St) (g : G) (P : Post) (D : Ends), StR K B F0 F H σ g → w P g → Link K B F0 P D → t D σ H
structure SS (X : Cx) (st : Stmt) (t : TS) (w : S) : Prop where
  ps : PS X st t
  sem : SemS X.K t w
structure SSs (X : Cx) (st : List Stmt) (t : TS) (w : S) : Prop where
  ps : PSs X st t
  sem : SemS X.K t w
theorem nil2 {K : PySem.W.Frag} {B F0 F H : Hp} {σ : L2.St} {g : G} (s : StR K B F0 F H σ g) : StR K B F0 F H (σ ++ []) (g ++ []) := by simpa using s
theorem StR.len {K : PySem.W.Frag} {B F0 F H : Hp} {σ : L2.St} {g : G} (s : StR K B F0 F H σ g) : σ.length = g.length := let ⟨_, w⟩ := s; w.len
section
variable {X : Cx} {pos : Pos}
theorem ss_nil : SSs X [] tNext sSkip := ⟨pss_nil, ⟨fun B F0 F H σ g P D s h L => L.nx F H σ g s h⟩⟩
theorem ss_cons {st : Stmt} {sts : List Stmt} {t u : TS} {a b : S} (h : SS X st t a) (k : SSs X sts u b) : SSs X (st :: sts) (tSeq t u) (sSeq a b) := ⟨pss_cons h.ps k.ps, ⟨fun B F0 F H σ g P D s hw L =>
  h.sem.run B F0 F H σ g { P with nx := b P } { D with nx := u D } s hw ⟨fun F' H' σ' g' s' hb => k.sem.run B F0 F' H' σ' g' P D s' hb L, L.rt, L.bk, L.ct⟩⟩⟩
theorem ss_one {st : Stmt} {t : TS} {a : S} (h : SS X st t a) : SSs X [st] t a := ⟨pss_one h.ps, h.sem⟩
theorem ss_pass : SS X (.Pass pos) tNext sSkip := ⟨ps_pass, ⟨fun B F0 F H σ g P D s h L => L.nx F H σ g s h⟩⟩
theorem ss_brk : SS X (.Break pos) tBreak sBrk := ⟨ps_break, ⟨fun B F0 F H σ g P D s h L => L.bk F H σ g s h⟩⟩
theorem ss_cnt : SS X (.Continue pos) tCont sCnt := ⟨ps_continue, ⟨fun B F0 F H σ g P D s h L => L.ct F H σ g s h⟩⟩
theorem ss_doc {x j pos pos'} : SS X (.Expr (.Constant (.str x) j pos) pos') tNext sSkip := ⟨ps_doc, ⟨fun B F0 F H σ g P D s h L => L.nx F H σ g s h⟩⟩
theorem sem_asg {K : PySem.W.Frag} {te : TE} {o : OX} (i : Nat) (h : SemO K te o) : SemS K (tAsg te (L2.gName i)) (sAsg i o) := ⟨fun B F0 F H σ g P D s hw L => by
  obtain ⟨r, g', h1, h2⟩ := hw
  refine h.run B F0 F H σ g [] [] s.len rfl (nil2 s) r g' h1 _ fun hl F' H' v hh s' => ?_
  simp only [List.append_nil] at s'
  have := StR.st1 (p := []) (q := []) (by rw [hl]; exact s.len) s' i
  simp only [List.append_nil] at this
  exact L.nx F' H' _ _ this h2⟩
theorem ss_set (i : Nat) {x : Str} {e : Expr} {te : TE} {o : OX} {pos' : Pos} (hN : X.N.Nodup) (h : SO X e te o) (hi : X.N[i]? = some x := by rfl) (hx : Loc X.env.scope x := by first | exact Or.inl rfl | exact Or.inr rfl) (hs : swapsWith e (some (.Name x pos')) pos.line X.env = pure false := by rfl)
    (hf : X.fn x = true ∨ X.env.scope.names.lookup x = some .local := by first | exact .inl rfl | exact .inr rfl) : SS X (.Assign [.Name x pos'] e pos) (tAsg te (L2.gName i)) (sAsg i o) :=
  ⟨ps_set hN hi hx h.pe hs hf, sem_asg i h.sem⟩
/-- name = [..] -/
theorem ss_setLc (i : Nat) {x : Str} {pos' : Pos} {elt tg iter : Expr} {ifs : List Expr} {scope : Scope} {pc : Pos} {wi : TI} {src : IX} {vi : List Nat} {Gt : L2.TG} {gt : TG} {tt : TT} {t : TX} {vt : List Nat} {te : TE} {f : EX} {vf : List Nat} (ws : List Nat) (own : List (Str × Nat)) (hc : X.calm = true) (hN : X.N.Nodup)
    (hI : SI X tg iter wi src vi) (hg : ∀ s H C cl fp, SG' (BK X scope s H C cl fp) tg (own.map (·.2)) Gt gt) (ht : ∀ s H C cl fp, STs (BK X scope s H C cl fp) ifs tt t vt) (he : ∀ s H C cl fp, SE (BK X scope s H C cl fp) elt te f vf)
    (hi : X.N[i]? = some x := by rfl) (hyl : X.env.scope.names.lookup x = some .local := by rfl) (hsw : swapsWith (.ListComp elt [⟨tg, iter, ifs, 0⟩] scope pc) (some (.Name x pos')) pos.line X.env = pure true := by exact sw_true rfl rfl rfl (by decide +kernel))
    (ho : blkC X.N X.env.scope scope own = true := by decide +kernel) (hs : ∀ x, foldedSetIterable iter X.env x = pure x := by intro _; rfl) (hsub : (vi ++ (vt ++ vf)).all (fun j => ws.contains j) = true := by rfl) :
    SS X (.Assign [.Name x pos'] (.ListComp elt [⟨tg, iter, ifs, 0⟩] scope pc) pos) (tAsg (tLc wi Gt tt te (own.map (·.2))) (L2.gName i)) (sAsg i (oE ws (eComp (own.map (·.2)) src gt t f))) :=
  ⟨ps_setLc (own := own) hc hN hi hyl hsw hI.pi (blkOk_by ho) (fun s H C cl fp => (hg s H C cl fp).pg) (fun s H C cl fp => (ht s H C cl fp).pts) (fun s H C cl fp => (he s H C cl fp).pe) hs,
    sem_asg i (sem_oE ((sem_comp hI.sem (hg X.s_0 X.H_0 0 [] []).sem (ht X.s_0 X.H_0 0 [] []).sem (he X.s_0 X.H_0 0 [] []).sem).sub hsub))⟩
/-- a, b = x, y -/
theorem ss_par (i j : Nat) {x y : Str} {a b : Expr} {ta : TA} {os : List OX} {px py pt : Pos} {kt k2 pt2} (hc : X.calm = true) (hN : X.N.Nodup) (h : SOs X [a, b] ta os) (hi : X.N[i]? = some x := by rfl) (hj : X.N[j]? = some y := by rfl) (hij : i ≠ j := by decide)
    (hx : X.env.scope.names.lookup x = some .local := by rfl) (hy : X.env.scope.names.lookup y = some .local := by rfl)
    (hw : swappedStores [.Tuple [.Name x px, .Name y py] kt pt] (.Tuple [a, b] k2 pt2) X.env = pure (some [x, y]) := by rfl) (hs : swapsWithSole [.Tuple [.Name x px, .Name y py] kt pt] (.Tuple [a, b] k2 pt2) pos.line X.env = pure false := by rfl) :
    SS X (.Assign [.Tuple [.Name x px, .Name y py] kt pt] (.Tuple [a, b] k2 pt2) pos) (tPar i j ta) (sPar [i, j] os) :=
  ⟨ps_par hc hN hi hj hij hx hy h.pa hw hs, ⟨fun B F0 F H σ g P D s hw' L => by
    obtain ⟨rs, g', h1, h2, h3⟩ := hw'
    refine h.sem.run B F0 F H σ g [] [] s.len rfl (nil2 s) rs g' h1 _ fun hl F' H' ws hh lw s' => ?_
    have s2 := StR.setAll [i, j] rs ws (p := []) (q := []) (by rw [hl]; exact s.len) h2.symm lw (by simpa using s')
    simp only [List.append_nil] at s2
    match rs, ws, h2, lw, s2, h3 with
    | [r1, r2], [w1, w2], _, _, s2, h3 => exact ⟨w1, w2, rfl, L.nx F' H' _ _ s2 h3⟩⟩⟩
/-- what stands in a tuple beside the state -/
theorem spread {K : PySem.W.Frag} {B F0 F H : Hp} {σ : L2.St} {g : G} {v : V} {r : OD} {os : List OD} {n : Nat} (hl : σ.length = g.length) (s : StR K B F0 F H (σ ++ [some v]) (g ++ [some r])) (h : untup n r = some os) :
    ∃ a ws, v = .ref a ∧ SqT K H a ws ∧ ws.length = n ∧ os.length = n ∧ StR K B F0 F H (σ ++ ws.map some) (g ++ os.map some) := by
  obtain ⟨fps, w⟩ := s
  have hr : rd (g ++ [some r]) g.length = some r := by rw [rd_snoc, if_pos rfl]
  obtain ⟨v', e1, ow⟩ := w.own _ _ hr
  rw [← hl, get_snoc, if_pos rfl] at e1
  cases e1
  have key : ∀ (fq : List (List Addr)) (ws : List V), ws.length = os.length → fq.length = os.length → (∀ k o, os[k]? = some o → ∃ x, ws[k]? = some x ∧ Own K F H (fq.getD k []) x o) → (fq.flatten.Nodup) → (∀ p ∈ fq.flatten, p ∈ fps g.length) → StR K B F0 F H (σ ++ ws.map some) (g ++ os.map some) := by
    intro fq ws l1 l2 hw nd sub
    have rdos : ∀ j, rd (g ++ os.map some) j = if j < g.length then rd g j else os[j - g.length]? := fun j => by
      by_cases hj : j < g.length
      · rw [rd_append_left hj, if_pos hj]
      · rw [rd_append_right (by omega), if_neg hj]
        unfold rd
        rw [List.getElem?_map]
        cases os[j - g.length]? <;> rfl
    have mem : ∀ k p, p ∈ fq.getD k [] → p ∈ fq.flatten := fun k p hp => by
      by_cases hk : k < fq.length
      · rw [List.getD_eq_getElem?_getD, List.getElem?_eq_getElem hk] at hp
        exact List.mem_flatten.mpr ⟨_, List.getElem_mem hk, hp⟩
      · rw [List.getD_eq_getElem?_getD, List.getElem?_eq_none (by omega)] at hp
        simp at hp
    have hg : ∀ j, j < g.length → rd g j ≠ none → rd (g ++ [some r]) j ≠ none := fun j hj h => by rw [rd_append_left hj]; exact h
    have hn : rd (g ++ [some r]) g.length ≠ none := by rw [hr]; simp
    refine ⟨fun j => if j < g.length then fps j else fq.getD (j - g.length) [], fun j o hj => ?_, fun j hj => ?_, fun j k p hj hk a b => ?_, by simp only [List.length_append, List.length_map]; omega, w.ff, w.new, w.fh, w.bh⟩
    · rw [rdos] at hj
      by_cases hlt : j < g.length
      · rw [if_pos hlt] at hj
        simp only [if_pos hlt]
        obtain ⟨x, a, b⟩ := w.own j o (by rw [rd_append_left hlt]; exact hj)
        exact ⟨x, by rw [List.getElem?_append_left (by omega)] at a ⊢; exact a, b⟩
      · rw [if_neg hlt] at hj
        simp only [if_neg hlt]
        obtain ⟨x, a, b⟩ := hw _ o hj
        exact ⟨x, by rw [List.getElem?_append_right (by omega), hl, List.getElem?_map, a]; rfl, b⟩
    · by_cases hlt : j < g.length
      · rw [rdos, if_pos hlt] at hj
        simp only [if_pos hlt]
        exact w.nd j (hg j hlt hj)
      · simp only [if_neg hlt]
        refine ⟨?_, fun p hp => (w.nd _ hn).2 p (sub p (mem _ p hp))⟩
        by_cases hk : j - g.length < fq.length
        · rw [List.getD_eq_getElem?_getD, List.getElem?_eq_getElem hk]
          exact (List.pairwise_flatten.mp nd).1 _ (List.getElem_mem hk)
        · rw [List.getD_eq_getElem?_getD, List.getElem?_eq_none (by omega)]
          exact List.nodup_nil
    · by_cases hj' : j < g.length
      · simp only [if_pos hj'] at a
        rw [rdos, if_pos hj'] at hj
        by_cases hk' : k < g.length
        · simp only [if_pos hk'] at b
          rw [rdos, if_pos hk'] at hk
          exact w.dj j k p (hg j hj' hj) (hg k hk' hk) a b
        · simp only [if_neg hk'] at b
          have := w.dj j g.length p (hg j hj' hj) hn a (sub p (mem _ p b))
          omega
      · simp only [if_neg hj'] at a
        by_cases hk' : k < g.length
        · simp only [if_pos hk'] at b
          rw [rdos, if_pos hk'] at hk
          have := w.dj k g.length p (hg k hk' hk) hn b (sub p (mem _ p a))
          omega
        · simp only [if_neg hk'] at b
          have hd := (List.pairwise_flatten.mp nd).2
          apply Classical.byContradiction
          intro hne
          have l3 : j - g.length < fq.length := by
            apply Classical.byContradiction
            intro z
            rw [List.getD_eq_getElem?_getD, List.getElem?_eq_none (by omega)] at a
            simp at a
          have l4 : k - g.length < fq.length := by
            apply Classical.byContradiction
            intro z
            rw [List.getD_eq_getElem?_getD, List.getElem?_eq_none (by omega)] at b
            simp at b
          rw [List.getD_eq_getElem?_getD, List.getElem?_eq_getElem l3] at a
          rw [List.getD_eq_getElem?_getD, List.getElem?_eq_getElem l4] at b
          rw [List.pairwise_iff_getElem] at hd
          rcases Nat.lt_or_gt_of_ne (show j - g.length ≠ k - g.length by omega) with z | z
          · exact hd _ _ l3 l4 z p a p b rfl
          · exact hd _ _ l4 l3 z p b p a rfl
  have split : ∀ {fp : List Addr} {ws : List V} {os : List OD}, Owns K F H fp ws os → ∃ fq : List (List Addr), fq.length = os.length ∧ fq.flatten = fp ∧ ∀ k o, os[k]? = some o → ∃ x, ws[k]? = some x ∧ Own K F H (fq.getD k []) x o := by
    intro fp ws os h
    induction os generalizing fp ws with
    | nil => cases h; exact ⟨[], rfl, rfl, fun k o e => by simp at e⟩
    | cons o os ih =>
      cases h with
      | @cons fp' fq' x ws' _ _ h1 h2 =>
        obtain ⟨fq, a, b, c⟩ := ih h2
        refine ⟨fp' :: fq, by simp [a], by simp [b], fun k o' e => ?_⟩
        cases k with
        | zero => cases e; exact ⟨x, rfl, h1⟩
        | succ k => exact c k o' e
  have nd := (w.nd g.length (by rw [hr]; simp)).1
  generalize heq : fps g.length = fp0 at ow nd key
  unfold untup at h
  split at h
  · split at h
    · rename_i hn
      cases h
      cases ow with
      | @tup p vs fp _ hp hz owns =>
        obtain ⟨fq, a, b, c⟩ := split owns
        exact ⟨p, vs, rfl, .inl (.inl hp), by rw [owns.length]; exact hn, hn, key fq vs owns.length a c (by rw [b]; exact (List.nodup_cons.mp nd).2) fun x hx => by rw [b] at hx; exact List.mem_cons_of_mem _ hx⟩
    · cases h
  · split at h
    · rename_i hn
      cases h
      cases ow with
      | frz rp =>
        cases rp with
        | @tup a vs _ ha hz rr =>
          refine ⟨a, vs, rfl, same_sqT w.fh ha, by rw [rr.length]; exact hn, by rw [List.length_map]; exact hn, key (List.replicate vs.length []) vs (by rw [List.length_map, rr.length]) (by rw [List.length_replicate, List.length_map, rr.length]) (fun k o e => ?_) (by simp) (fun p hp => by simp at hp)⟩
          rw [List.getElem?_map, Option.map_eq_some_iff] at e
          obtain ⟨d, e1, rfl⟩ := e
          obtain ⟨x, e2, r2⟩ := rr.get e1
          refine ⟨x, e2, ?_⟩
          have : (List.replicate vs.length ([] : List Addr)).getD k [] = [] := by
            rw [List.getD_eq_getElem?_getD, List.getElem?_replicate]
            split <;> rfl
          rw [this]
          exact .frz r2
    · cases h
  · cases h
end
end Z
namespace Z
open PySem L2
open Classical
section
variable {X : Cx} {pos : Pos}
/-- a, b = e, e a tuple -/
structure SUs (X : Cx) (ts : List Expr) (is : List Nat) (g : TGs) : Prop where
  pgs : PGs X ts g
  run : ∀ (ws : List V) (σ : L2.St) (H : Hp) (Q : L2.St → Hp → Prop), ws.length = is.length → Q ((is.zip ws).foldl (fun s a => s.set a.1 (some a.2)) σ) H → g ws σ H Q
theorem sus_nil : SUs X [] [] gNil := ⟨pgs_nil, fun ws σ H Q hl q => by
  cases ws with
  | nil => exact ⟨rfl, q⟩
  | cons _ _ => simp at hl⟩
theorem sus_cons (i : Nat) {x : Str} {p : Pos} {ts : List Expr} {is : List Nat} {g : TGs} (hN : X.N.Nodup) (r : SUs X ts is g) (hi : X.N[i]? = some x := by rfl) (hx : Loc X.env.scope x := by first | exact Or.inl rfl | exact Or.inr rfl)
    (hf : X.fn x = true ∨ X.env.scope.names.lookup x = some .local := by first | exact .inl rfl | exact .inr rfl) (hs : (assignEach (.Name x p :: ts) X.env).map (·.2) = assign (.Name x p) X.env :: (assignEach ts X.env).map (·.2) := by rfl) :
    SUs X (.Name x p :: ts) (i :: is) (gCons (L2.gName i) g) := ⟨pgs_cons (pg_name hN hi hx hf) r.pgs hs, fun ws σ H Q hl q => by
  cases ws with
  | nil => simp at hl
  | cons w ws => exact ⟨w, ws, rfl, r.run ws _ H Q (by simpa using hl) q⟩⟩
theorem sem_unp {K : PySem.W.Frag} {te : TE} {o : OX} {is : List Nat} {g : TGs} (h : SemO K te o) (hg : ∀ (ws : List V) (σ : L2.St) (H : Hp) (Q : L2.St → Hp → Prop), ws.length = is.length → Q ((is.zip ws).foldl (fun s a => s.set a.1 (some a.2)) σ) H → g ws σ H Q) :
    SemS K (tAsg te (L2.gTup K is.length g)) (sUnp is o) := ⟨fun B F0 F H σ gg P D s hw L => by
  obtain ⟨r, g', os, h1, h2, h3⟩ := hw
  refine h.run B F0 F H σ gg [] [] s.len rfl (nil2 s) r g' h1 _ fun hl F' H' v hh s' => ?_
  simp only [List.append_nil] at s'
  obtain ⟨a, ws, rfl, hq, hn, hn2, s2⟩ := spread (by rw [hl]; exact s.len) s' h2
  refine ⟨a, ws, rfl, hq, hn, hg ws σ H' _ hn ?_⟩
  have s3 := StR.setAll is os ws (p := []) (q := []) (by rw [hl]; exact s.len) (by omega) (by omega) (by simpa using s2)
  simp only [List.append_nil] at s3
  exact L.nx F' H' _ _ s3 h3⟩
theorem ss_unp {ts : List Expr} {is : List Nat} {g : TGs} {k : Nat} {pt : Pos} {e : Expr} {te : TE} {o : OX} (hc : X.calm = true) (hg : SUs X ts is g) (h : SO X e te o) (hn : (assignEach ts X.env).length = is.length := by rfl) (hst : (assignEach ts X.env).findIdx? (·.1) = none := by rfl)
    (hs : swapsWithSole [.Tuple ts k pt] e pos.line X.env = pure false := by rfl) (hw : swappedStores [.Tuple ts k pt] e X.env = pure none := by rfl) (h1 : (assignEach [.Tuple ts k pt] X.env).map (·.2) = [assign (.Tuple ts k pt) X.env] := by rfl) :
    SS X (.Assign [.Tuple ts k pt] e pos) (tAsg te (L2.gTup X.K is.length g)) (sUnp is o) := ⟨ps_asg h.pe (pg_tup hc hg.pgs hn hst) hs hw h1, sem_unp h.sem hg.run⟩
/-- an expression whose value is dropped -/
theorem run_view {K : PySem.W.Frag} {B F0 F H : Hp} {σ : L2.St} {g : G} {te : TE} {f : EX} {vs : List Nat} (h : SemE K te f vs) (s : StR K B F0 F H σ g) {o : OD} (ho : f (erG g) = some o) {Q : VK} (q : ∀ H' v, Same H H' → StR K B F0 F H' σ g → Q v H') : te σ H Q := by
  obtain ⟨fps, w⟩ := nil2 s
  obtain ⟨F1, e, sf, s1, he, hf, fin⟩ := w.view s.len vs
  refine h.run F1 H σ e s1 he o (by rw [hf f h.cong]; exact ho) Q fun F' H' fp v rs => q H' v rs.grow.hh ?_
  exact s.grow ⟨Same.refl _, rs.grow.hh, fun _ _ e => .inl e⟩ (w.fh.trans rs.grow.hh)
theorem run_viewD {K : PySem.W.Frag} {B F0 F H : Hp} {σ : L2.St} {g : G} {te : TE} {f : EX} {vs : List Nat} (h : SemE K te f vs) (s : StR K B F0 F H σ g) {d : D} (ho : f.d (erG g) = some d) (hd : d.scalar = true) {Q : VK} (q : ∀ H' v, Same H H' → StR K B F0 F H' σ g → Rep K F v d → Q v H') : te σ H Q := by
  obtain ⟨fps, w⟩ := nil2 s
  obtain ⟨F1, e, sf, s1, he, hf, fin⟩ := w.view s.len vs
  refine h.runD s1 he (by rw [hf f.d h.cong.d]; exact ho) fun F' H' v gr sm r => q H' v gr.hh ?_ (r.of_scalar hd)
  exact s.grow ⟨Same.refl _, gr.hh, fun _ _ e => .inl e⟩ (w.fh.trans gr.hh)
theorem run_viewT {K : PySem.W.Frag} {B F0 F H : Hp} {σ : L2.St} {g : G} {tt : TT} {f : TX} {vs : List Nat} (h : SemT K tt f vs) (s : StR K B F0 F H σ g) {b : Bool} (ho : f (erG g) = some b) {Q : Bool → Hp → Prop} (q : ∀ H', Same H H' → StR K B F0 F H' σ g → Q b H') : tt σ H Q := by
  obtain ⟨fps, w⟩ := nil2 s
  obtain ⟨F1, e, sf, s1, he, hf, fin⟩ := w.view s.len vs
  refine h.run F1 H σ e s1 he b (by rw [hf f h.cong]; exact ho) Q fun F' H' gr sm => q H' gr.hh ?_
  exact s.grow ⟨Same.refl _, gr.hh, fun _ _ e => .inl e⟩ (w.fh.trans gr.hh)
theorem ss_drop {e : Expr} {te : TE} {f : EX} {vs : List Nat} (h : SE X e te f vs) (hs : swapsWith e none pos.line X.env = pure false := by rfl) : SS X (.Expr e pos) (tDrop te) (sDrop f) := ⟨ps_expr h.pe hs, ⟨fun B F0 F H σ g P D s hw L => by
  obtain ⟨o, h1, h2⟩ := hw
  exact run_view h.sem s h1 fun H' v _ s' => L.nx F H' σ g s' h2⟩⟩
theorem ss_ret {e : Expr} {te : TE} {o : OX} (h : SO X e te o) : SS X (.Return (some e) pos) (tRet te) (sRet o) := ⟨ps_ret h.pe, ⟨fun B F0 F H σ g P D s hw L => by
  obtain ⟨r, g', h1, h2⟩ := hw
  refine h.sem.run B F0 F H σ g [] [] s.len rfl (nil2 s) r g' h1 _ fun hl F' H' v hh s' => ?_
  simp only [List.append_nil] at s'
  exact L.rt F' H' v r (StR.suf (by rw [hl]; exact s.len) s') h2⟩⟩
theorem ss_if {c : Expr} {a b : List Stmt} {tc : TT} {fc : TX} {vc : List Nat} {ta tb : TS} {wa wb : S} (hc : ST X c tc fc vc) (ha : SSs X a ta wa) (hb : SSs X b tb wb) : SS X (.If c a b pos) (tIfS tc ta tb) (sIf fc wa wb) := ⟨ps_if hc.pt ha.ps hb.ps, ⟨fun B F0 F H σ g P D s hw L => by
  obtain ⟨t, h1, h2, h3⟩ := hw
  refine run_viewT hc.sem s h1 fun H' _ s' => ?_
  cases t with
  | true => rw [if_pos rfl]; exact ha.sem.run B F0 F H' σ g P D s' (h2 rfl) L
  | false => rw [if_neg (by decide)]; exact hb.sem.run B F0 F H' σ g P D s' (h3 rfl) L⟩⟩
theorem ss_while {c : Expr} {body : List Stmt} {tc : TT} {fc : TX} {vc : List Nat} {tb : TS} {w : S} (hp : PassesOwn (model X.prog X.w) X.A X.env X.xe) (hc : ST X c tc fc vc) (hb : SSs X body tb w) : SS X (.While c body [] pos) (tWhile tc tb) (sWhile fc w) := ⟨ps_while hp hc.pt hb.ps, ⟨fun B F0 F H σ g P D s hw L => by
  obtain ⟨W, ⟨m0, w0⟩, turn⟩ := hw
  refine ⟨fun m σ H => ∃ F g, StR X.K B F0 F H σ g ∧ W m g, ⟨m0, F, g, s, w0⟩, ?_⟩
  rintro m σ1 H1 ⟨F1, g1, s1, w1⟩
  obtain ⟨t, h1, h2, h3⟩ := turn m g1 w1
  refine run_viewT hc.sem s1 h1 fun H' _ s' => ?_
  cases t with
  | true =>
    rw [if_pos rfl]
    refine ⟨fun σ H => ∃ F g, StR X.K B F0 F H σ g ∧ ∃ m', m' < m ∧ W m' g, fun σ' H' ⟨F2, g2, s2, m', hm, w2⟩ => ⟨m', hm, F2, g2, s2, w2⟩, ?_⟩
    exact hb.sem.run B F0 F1 H' σ1 g1 _ _ s' (h2 rfl) ⟨fun F2 H2 σ2 g2 s2 h => ⟨F2, g2, s2, h⟩, L.rt, fun F2 H2 σ2 g2 s2 h => L.nx F2 H2 σ2 g2 s2 h, fun F2 H2 σ2 g2 s2 h => ⟨F2, g2, s2, h⟩⟩
  | false => rw [if_neg (by decide)]; exact L.nx F1 H' σ1 g1 s' (h3 rfl)⟩⟩
/-! for -/
structure SemH (K : PySem.W.Frag) (t : L2.TG) (h : SG) : Prop where
  run : ∀ (B F0 F H : Hp) (σ : L2.St) (g g' : G) (v : V) (d : D), StR K B F0 F H σ g → Rep K F v d → h d g = some g' → ∀ Q : L2.St → Hp → Prop, (∀ σ', StR K B F0 F H σ' g' → Q σ' H) → t v σ H Q
structure SH (X : Cx) (tg : Expr) (t : L2.TG) (h : SG) : Prop where
  pg : PG X tg t
  sem : SemH X.K t h
theorem StR.frz {K : PySem.W.Frag} {B F0 F H : Hp} {σ : L2.St} {g : G} (s : StR K B F0 F H σ g) {v : V} {d : D} (r : Rep K F v d) : StR K B F0 F H (σ ++ [some v]) (g ++ [some (.frz d)]) := by
  obtain ⟨fps, w⟩ := s
  exact w.put (.frz r) List.nodup_nil (fun p hp => by simp at hp) fun i p _ _ hp => by simp at hp
theorem sh_name (i : Nat) {x : Str} {p : Pos} (hN : X.N.Nodup) (hi : X.N[i]? = some x := by rfl) (hx : Loc X.env.scope x := by first | exact Or.inl rfl | exact Or.inr rfl)
    (hf : X.fn x = true ∨ X.env.scope.names.lookup x = some .local := by first | exact .inl rfl | exact .inr rfl) : SH X (.Name x p) (L2.gName i) (hName i) := ⟨pg_name hN hi hx hf, ⟨fun B F0 F H σ g g' v d s r h Q q => by
  cases h
  have := StR.st1 (p := []) (q := []) s.len (s.frz r) i
  simp only [List.append_nil] at this
  exact q _ this⟩⟩
theorem sh_tup {ts : List Expr} {is : List Nat} {g : TGs} {k : Nat} {pt : Pos} (hc : X.calm = true) (hg : SUs X ts is g) (hn : (assignEach ts X.env).length = is.length := by rfl) (hst : (assignEach ts X.env).findIdx? (·.1) = none := by rfl) :
    SH X (.Tuple ts k pt) (L2.gTup X.K is.length g) (hTup is) := ⟨pg_tup hc hg.pgs hn hst, ⟨fun B F0 F H σ g g' v d s r h Q q => by
  unfold hTup at h
  cases d <;> simp only [reduceCtorEq] at h
  rename_i ds
  split at h
  · rename_i hl
    cases h
    obtain ⟨a, ws, rfl, hq, hn', hn2, s2⟩ := spread (n := is.length) (os := ds.map .frz) s.len (s.frz r) (by show (if ds.length = is.length then some (ds.map OD.frz) else none) = _; rw [if_pos hl])
    refine ⟨a, ws, rfl, hq, hn', hg.run ws σ H _ hn' (q _ ?_)⟩
    have s3 := StR.setAll is (ds.map .frz) ws (p := []) (q := []) s.len (by omega) (by omega) (by simpa using s2)
    simpa using s3
  · cases h⟩⟩
theorem SemI.sub {K : PySem.W.Frag} {wi : TI} {src : IX} {vs ws : List Nat} (h : SemI K wi src vs) (hs : vs.all (fun j => ws.contains j) = true) : SemI K wi src ws := ⟨h.cong.sub hs, h.run⟩
theorem ss_for {tg iter : Expr} {body : List Stmt} {wi : TI} {src : IX} {vs : List Nat} {t : L2.TG} {h : SG} {tb : TS} {w : S} (ws : List Nat) (hp : PassesOwn (model X.prog X.w) X.A X.env X.xe) (hc : X.calm = true) (hi : SI X tg iter wi src vs) (hg : SH X tg t h) (hb : SSs X body tb w)
    (hs : ∀ x, foldedSetIterable iter X.env x = pure x := by intro _; rfl) (hsub : vs.all (fun j => ws.contains j) = true := by rfl) : SS X (.For tg iter body [] pos) (tFor wi t tb) (sFor ws src h w) := ⟨ps_for hp hc hi.pi hg.pg hb.ps hs, ⟨fun B F0 F H σ g P D s hw L => by
  obtain ⟨ds, h1, W, w0, turn, fin⟩ := hw
  obtain ⟨fps, sw⟩ := nil2 s
  obtain ⟨F1, e, sf, s1, he, hf, vw⟩ := sw.view s.len ws
  refine (hi.sem.sub hsub).run F1 H σ e s1 he ds (by rw [hf src (hi.sem.sub hsub).cong]; exact h1) _ fun F' H' J Gd Y gr sm wk hG hY => ?_
  have s2 : StR X.K B F0 F' H' σ (fz ws g) := by
    have := vw gr sm
    simp only [List.append_nil] at this
    exact ⟨_, this⟩
  have ff : Same F0 F' := let ⟨_, z⟩ := s2; z.ff
  have nw : ∀ a o, F' a = some o → F0 a = some o ∨ B a = none := let ⟨_, z⟩ := s2; z.new
  have s3 : StR X.K B F' F' H' σ (fz ws g) := by
    obtain ⟨f2, z⟩ := s2
    exact ⟨f2, z.own, z.nd, z.dj, z.len, Same.refl _, fun _ _ e => .inl e, z.fh, z.bh⟩
  refine for_it wk (fun i σ H => ∃ F2 g2, StR X.K B F' F2 H σ g2 ∧ W i g2) ⟨F', _, s3, w0⟩ (fun i σ H _ ⟨F2, g2, z, _⟩ => hG H (let ⟨_, y⟩ := z; y.ff.trans y.fh)) ?_ fun σ H ⟨F2, g2, z, w2⟩ => L.nx F2 H σ g2 (z.base ff nw) (fin g2 w2)
  rintro i x σ2 H2 H3 hlt ⟨F2, g2, z, w2⟩ y
  obtain ⟨d, hd⟩ : ∃ d, ds[i]? = some d := ⟨ds[i], by simp [hlt]⟩
  obtain ⟨F3, g3, s3, rx⟩ := hY i H2 x H3 d hd y F2 (let ⟨_, y⟩ := z; y.ff) (let ⟨_, y⟩ := z; y.fh)
  obtain ⟨g4, h4, b4⟩ := turn i d g2 hd w2
  refine hg.sem.run B F' F3 H3 σ2 g2 g4 x d (z.grow g3 s3) rx h4 _ fun σ4 s4 => ?_
  exact hb.sem.run B F' F3 H3 σ4 g4 _ _ s4 b4 ⟨fun F5 H5 σ5 g5 s5 h5 => ⟨F5, g5, s5, h5⟩, fun F5 H5 v r s5 h5 => L.rt F5 H5 v r (s5.base ff nw) h5, fun F5 H5 σ5 g5 s5 h5 => L.nx F5 H5 σ5 g5 (s5.base ff nw) h5, fun F5 H5 σ5 g5 s5 h5 => ⟨F5, g5, s5, h5⟩⟩⟩⟩
/-! for over a range -/
structure SemR (K : PySem.W.Frag) (wi : TI) (src : RX) (vs : List Nat) : Prop where
  cong : Cong src vs
  run : ∀ (F H : Hp) (σ : L2.St) (e : Ev), Same F H → EnvR K F σ e → ∀ lo n, src e = some (lo, n) → ∀ R : It → Hp → Prop, (∀ F' H', Grow F H F' H' → Same F' H' → R (Itr lo n) H') → wi σ H R
structure SR (X : Cx) (tg iter : Expr) (wi : TI) (src : RX) (vs : List Nat) : Prop where
  pi : PI X tg iter wi
  sem : SemR X.K wi src vs
theorem sr_1 {tg : Expr} {a : Expr} {ta : TE} {f : EX} {vs : List Nat} {p : Pos} (hm : X.mg "range" = none) (h : SE X a ta f vs) (hg : Gl X "range" := by rfl) (hs : starEach [a] X.env = [(false, eval a X.env)] := by rfl) :
    SR X tg (.Call (.Name "range" p) [a] [] pos) (L2.iRng1 (tCons ta tNil)) (rRng1 f) vs :=
  ⟨pi_range1 hg hm (pa_cons h.pe pa_nil hs) hs, fun e e' hl k => by unfold rRng1; rw [h.sem.cong.d e e' hl k], fun F H σ e hs he lo n hd R q => by
    unfold rRng1 at hd
    rw [Option.bind_eq_some_iff] at hd
    obtain ⟨j, h1, h2⟩ := hd
    rw [Option.bind_eq_some_iff] at h1
    obtain ⟨d, h0, h1⟩ := h1
    have := asI_some h1
    subst this
    split at h2
    · rename_i b
      cases h2
      refine h.sem.runD hs he h0 fun F1 H1 x g s r => ?_
      cases r
      have b' := big62_ok b
      exact ⟨j, rfl, b'.1, b'.2, q F1 H1 g s⟩
    · cases h2⟩
theorem sr_2 {tg : Expr} {a b : Expr} {ta tb : TE} {f f2 : EX} {vs ws : List Nat} {p : Pos} (hm : X.mg "range" = none) (h : SE X a ta f vs) (k : SE X b tb f2 ws) (hg : Gl X "range" := by rfl)
    (hs : starEach [a, b] X.env = [(false, eval a X.env), (false, eval b X.env)] := by rfl) (hs2 : starEach [b] X.env = [(false, eval b X.env)] := by rfl) (hs3 : starEach [a, b] X.env = (false, eval a X.env) :: starEach [b] X.env := by rfl) :
    SR X tg (.Call (.Name "range" p) [a, b] [] pos) (L2.iRng2 (tCons ta (tCons tb tNil))) (rRng2 f f2) (vs ++ ws) :=
  ⟨pi_range2 hg hm (pa_cons h.pe (pa_cons k.pe pa_nil hs2) hs3) hs hs2, fun e e' hl kk => by unfold rRng2; rw [h.sem.cong.d.left e e' hl kk, k.sem.cong.d.right e e' hl kk], fun F H σ e hs he lo n hd R q => by
    unfold rRng2 at hd
    rw [Option.bind_eq_some_iff] at hd
    obtain ⟨i, h1, hd⟩ := hd
    rw [Option.bind_eq_some_iff] at hd
    obtain ⟨j, h2, hd⟩ := hd
    rw [Option.bind_eq_some_iff] at h1 h2
    obtain ⟨d1, h3, h4⟩ := h1
    obtain ⟨d2, h5, h6⟩ := h2
    have := asI_some h4
    subst this
    have := asI_some h6
    subst this
    split at hd
    · rename_i b
      rw [Bool.and_eq_true] at b
      cases hd
      refine h.sem.runD hs he h3 fun F1 H1 x g s r => ?_
      refine k.sem.runD s (he.mono g.ff) h5 fun F2 H2 y g2 s2 r2 => ?_
      cases r
      cases r2
      have b1 := big62_ok b.1
      have b2 := big62_ok b.2
      exact ⟨_, _, rfl, ⟨b1.1, b1.2, b2.1, b2.2⟩, q F2 H2 (g.trans g2) s2⟩
    · cases hd⟩
theorem ss_forR (i : Nat) {x : Str} {px : Pos} {iter : Expr} {body : List Stmt} {wi : TI} {src : RX} {vs : List Nat} {tb : TS} {w : S} (hp : PassesOwn (model X.prog X.w) X.A X.env X.xe) (hc : X.calm = true) (hN : X.N.Nodup) (hi : SR X (.Name x px) iter wi src vs) (hb : SSs X body tb w) (hI : X.N[i]? = some x := by rfl) (hx : Loc X.env.scope x := by first | exact Or.inl rfl | exact Or.inr rfl)
    (hf : X.fn x = true ∨ X.env.scope.names.lookup x = some .local := by first | exact .inl rfl | exact .inr rfl)
    (hs : ∀ x, foldedSetIterable iter X.env x = pure x := by intro _; rfl) : SS X (.For (.Name x px) iter body [] pos) (tFor wi (L2.gName i) tb) (sForR src i w) := ⟨ps_for hp hc hi.pi (pg_name hN hI hx hf) hb.ps hs, ⟨fun B F0 F H σ g P D s hw L => by
  obtain ⟨lo, n, h1, W, w0, turn, fin⟩ := hw
  obtain ⟨fps, sw⟩ := nil2 s
  obtain ⟨F1, e, sf, s1, he, hf, vw⟩ := sw.view s.len vs
  refine hi.sem.run F1 H σ e s1 he lo n (by rw [hf src hi.sem.cong]; exact h1) _ fun F' H' gr sm => ?_
  have s2 : StR X.K B F0 F H' σ g := s.grow ⟨Same.refl _, gr.hh, fun _ _ e => .inl e⟩ (sw.fh.trans gr.hh)
  refine for_it walk_range (fun i σ H => ∃ F2 g2, StR X.K B F0 F2 H σ g2 ∧ W i g2) ⟨F, g, s2, w0⟩ (fun _ _ _ _ _ => trivial) ?_ fun σ H ⟨F2, g2, z, w2⟩ => L.nx F2 H σ g2 z (fin g2 w2)
  rintro k x σ2 H2 H3 hlt ⟨F2, g2, z, w2⟩ ⟨rfl, rfl⟩
  have s4 := StR.st1 (p := []) (q := []) z.len (z.frz (.int (lo + (k : Int)))) i
  simp only [List.append_nil] at s4
  exact hb.sem.run B F0 F2 H3 _ _ _ _ s4 (turn k g2 hlt w2) ⟨fun F5 H5 σ5 g5 s5 h5 => ⟨F5, g5, s5, h5⟩, L.rt, fun F5 H5 σ5 g5 s5 h5 => L.nx F5 H5 σ5 g5 s5 h5, fun F5 H5 σ5 g5 s5 h5 => ⟨F5, g5, s5, h5⟩⟩⟩⟩

/-! ### lists changed in place -/
/-- the list that a name owns -/
theorem StW.list {K : PySem.W.Frag} {B F0 F H : Hp} {σ : L2.St} {g : G} {fps : Nat → List Addr} (s : StW K B F0 F H σ g fps) {i : Nat} {xs : List OD} (h : lstAt i g = some xs) :
    ∃ p vs fp, fps i = p :: fp ∧ σ[i]? = some (some (.ref p)) ∧ H p = some (.lst vs) ∧ vs.length ≤ sizeLine ∧ Owns K F H fp vs xs ∧ rd g i = some (.lst xs) := by
  unfold lstAt at h
  rw [Option.bind_eq_some_iff] at h
  obtain ⟨o, h1, h2⟩ := h
  cases o <;> simp only [reduceCtorEq] at h2
  cases h2
  obtain ⟨v, a, b⟩ := s.own i _ h1
  generalize hf : fps i = fp0 at b
  cases b with
  | @lst p vs fp _ h3 h4 h5 => exact ⟨p, vs, fp, rfl, a, h3, h4, h5, h1⟩
/-- the list at a name becomes another one, made of some of what it held and of what stands beside the state -/
theorem StW.change {K : PySem.W.Frag} {B F0 F H : Hp} {σ : L2.St} {g : G} {fps : Nat → List Addr} (s : StW K B F0 F H σ g fps) {i : Nat} {p : Addr} {fp : List Addr} (hf : fps i = p :: fp) (hr : rd g i ≠ none) {vs' : List V} {xs' : List OD} {fq : List Addr}
    (hz : vs'.length ≤ sizeLine) (ow : Owns K F H fq vs' xs') (nd : fq.Nodup) (sub : ∀ x ∈ fq, x ∈ fp ∨ ∃ m, m ≠ i ∧ rd g m ≠ none ∧ x ∈ fps m) {σ' : L2.St} {g' : G} (hl : σ'.length = g'.length) (hg : ∀ j, j ≠ i → rd g' j ≠ none → rd g' j = rd g j ∧ σ'[j]? = σ[j]? ∧ ∀ x ∈ fq, x ∉ fps j) (hi : rd g' i = some (.lst xs')) (hσ : σ'[i]? = some (some (.ref p))) :
    StR K B F0 F (upd H p (.lst vs')) σ' g' := by
  have np : p ∉ fq := fun hp => by
    rcases sub p hp with h | ⟨m, hm, hmn, h⟩
    · have := (s.nd i hr).1
      rw [hf] at this
      exact (List.nodup_cons.mp this).1 h
    · exact hm (s.dj m i p hmn hr h (by rw [hf]; exact List.mem_cons_self))
  have pF := (s.nd i hr).2 p (by rw [hf]; exact List.mem_cons_self)
  have npj : ∀ j, j ≠ i → rd g' j ≠ none → p ∉ fps j := fun j hj hn hp => hj (s.dj j i p (by rw [← (hg j hj hn).1]; exact hn) hr hp (by rw [hf]; exact List.mem_cons_self))
  refine ⟨fun j => if j = i then p :: fq else fps j, fun j o hj => ?_, fun j hj => ?_, fun j k x hj hk a b => ?_, hl, s.ff, s.new, fun a u e => by rw [upd_ne (ne_of_none e pF.1)]; exact s.fh a u e, fun a u e => by rw [upd_ne (ne_of_none e pF.2)]; exact s.bh a u e⟩
  · by_cases e : j = i
    · subst e
      rw [hi] at hj
      cases hj
      simp only [if_true]
      exact ⟨.ref p, hσ, .lst upd_same hz (ow.mono (Same.refl _) fun x hx => upd_ne fun z => np (by rw [← z]; exact hx))⟩
    · simp only [if_neg e]
      have hn : rd g' j ≠ none := by rw [hj]; simp
      obtain ⟨a, b, _⟩ := hg j e hn
      rw [a] at hj
      obtain ⟨v, c, d⟩ := s.own j o hj
      exact ⟨v, by rw [b]; exact c, d.mono (Same.refl _) fun x hx => upd_ne fun z => npj j e hn (by rw [← z]; exact hx)⟩
  · by_cases e : j = i
    · simp only [if_pos e]
      refine ⟨List.nodup_cons.mpr ⟨np, nd⟩, fun x hx => ?_⟩
      rcases List.mem_cons.mp hx with z | hx
      · rw [z]; exact pF
      · rcases sub x hx with h | ⟨m, hm, hmn, h⟩
        · exact (s.nd i hr).2 x (by rw [hf]; exact List.mem_cons_of_mem _ h)
        · exact (s.nd m hmn).2 x h
    · simp only [if_neg e]
      rw [(hg j e hj).1] at hj
      exact s.nd j hj
  · by_cases e : j = i
    · simp only [if_pos e] at a
      by_cases e' : k = i
      · rw [e, e']
      · simp only [if_neg e'] at b
        rcases List.mem_cons.mp a with z | a
        · rw [z] at b; exact (npj k e' hk b).elim
        · exact ((hg k e' hk).2.2 x a b).elim
    · simp only [if_neg e] at a
      by_cases e' : k = i
      · simp only [if_pos e'] at b
        rcases List.mem_cons.mp b with z | b
        · rw [z] at a; exact (npj j e hj a).elim
        · exact ((hg j e hj).2.2 x b a).elim
      · simp only [if_neg e'] at b
        rw [(hg j e hj).1] at hj
        rw [(hg k e' hk).1] at hk
        exact s.dj j k x hj hk a b
theorem Owns.get {K : PySem.W.Frag} {F H : Hp} : ∀ {os : List OD} {fp : List Addr} {vs : List V}, Owns K F H fp vs os → ∀ {i : Nat} {o : OD}, os[i]? = some o → ∃ v fq, vs[i]? = some v ∧ Own K F H fq v o ∧ (fp.Nodup → fq.Nodup) ∧ ∀ x ∈ fq, x ∈ fp
  | _, _, _, .nil, i, o, h => by simp at h
  | _, _, _, .cons (fp := fp) (fq := fq) h r, 0, o, e => by
    cases e
    exact ⟨_, fp, rfl, h, fun n => (List.nodup_append.mp n).1, fun x hx => List.mem_append_left _ hx⟩
  | _, _, _, .cons h r, i + 1, o, e => by
    obtain ⟨v, fq, a, b, c, d⟩ := Owns.get r (i := i) (by simpa using e)
    exact ⟨v, fq, by simpa using a, b, fun n => c (List.nodup_append.mp n).2.1, fun x hx => List.mem_append_right _ (d x hx)⟩
theorem Owns.dropLast {K : PySem.W.Frag} {F H : Hp} : ∀ (os : List OD) {fp : List Addr} {vs : List V}, Owns K F H fp vs os → ∃ fq, Owns K F H fq vs.dropLast os.dropLast ∧ (fp.Nodup → fq.Nodup) ∧ ∀ x ∈ fq, x ∈ fp
  | [], fp, vs, h => by cases h; exact ⟨[], .nil, id, fun _ h => h⟩
  | [o], fp, vs, h => by
    cases h with
    | @cons f1 f2 v ws _ _ h r =>
      cases r
      exact ⟨[], .nil, fun _ => List.nodup_nil, fun _ h => by simp at h⟩
  | o :: o2 :: os, fp, vs, h => by
    cases h with
    | @cons f1 f2 v ws _ _ h r =>
      obtain ⟨fq, a, b, c⟩ := Owns.dropLast (o2 :: os) r
      have hn : ws ≠ [] := fun z => by have := r.length; rw [z] at this; simp at this
      refine ⟨f1 ++ fq, ?_, fun n => ?_, fun x hx => ?_⟩
      · rw [List.dropLast_cons_of_ne_nil hn, List.dropLast_cons_of_ne_nil (by simp)]
        exact Owns.cons h a
      · obtain ⟨n1, n2, n3⟩ := List.nodup_append.mp n
        exact List.nodup_append.mpr ⟨n1, b n2, fun x hx y hy => n3 x hx y (c y hy)⟩
      · rcases List.mem_append.mp hx with hx | hx
        · exact List.mem_append_left _ hx
        · exact List.mem_append_right _ (c x hx)
theorem Owns.set {K : PySem.W.Frag} {F H : Hp} {w : V} {o : OD} {fw : List Addr} (hw : Own K F H fw w o) : ∀ {os : List OD} {fp : List Addr} {vs : List V} (n : Nat), Owns K F H fp vs os → fw.Nodup → (∀ x ∈ fw, x ∉ fp) → ∃ fq, Owns K F H fq (vs.set n w) (os.set n o) ∧ (fp.Nodup → fq.Nodup) ∧ ∀ x ∈ fq, x ∈ fp ∨ x ∈ fw
  | _, _, _, n, .nil, nd, dj => ⟨[], by cases n <;> exact .nil, id, fun _ h => by simp at h⟩
  | _, _, _, 0, .cons (fp := fp) (fq := fq) h r, nd, dj => ⟨fw ++ fq, .cons hw r, fun n => List.nodup_append.mpr ⟨nd, (List.nodup_append.mp n).2.1, fun x hx y hy e => dj x hx (List.mem_append_right _ (by rw [e]; exact hy))⟩, fun x hx => by
      rcases List.mem_append.mp hx with hx | hx
      · exact .inr hx
      · exact .inl (List.mem_append_right _ hx)⟩
  | _, _, _, n + 1, .cons (fp := fp) (fq := fq) h r, nd, dj => by
    obtain ⟨f2, a, b, c⟩ := Owns.set hw n r nd fun x hx hy => dj x hx (List.mem_append_right _ hy)
    refine ⟨fp ++ f2, .cons h a, fun nn => ?_, fun x hx => ?_⟩
    · obtain ⟨n1, n2, n3⟩ := List.nodup_append.mp nn
      refine List.nodup_append.mpr ⟨n1, b n2, fun x hx y hy e => ?_⟩
      subst e
      rcases c x hy with z | z
      · exact n3 x hx x z rfl
      · exact dj x z (List.mem_append_left _ hx)
    · rcases List.mem_append.mp hx with hx | hx
      · exact .inl (List.mem_append_left _ hx)
      · rcases c x hx with z | z
        · exact .inl (List.mem_append_right _ z)
        · exact .inr z
/-- the name's list takes a new form in which the one beside the state has its place -/
theorem StR.chg1 {K : PySem.W.Frag} {B F0 F H : Hp} {σ : L2.St} {g : G} {w : V} {r : OD} (hl : σ.length = g.length) (s : StR K B F0 F H (σ ++ [some w]) (g ++ [some r])) {i : Nat} {xs : List OD} (h : lstAt i g = some xs) :
    ∃ p vs, σ[i]? = some (some (.ref p)) ∧ H p = some (.lst vs) ∧ vs.length = xs.length ∧ vs.length ≤ sizeLine ∧
      (vs.length + 1 ≤ sizeLine → StR K B F0 F (upd H p (.lst (vs ++ [w]))) σ (g.set i (some (.lst (xs ++ [r]))))) ∧ (∀ n, StR K B F0 F (upd H p (.lst (vs.set n w))) σ (g.set i (some (.lst (xs.set n r))))) := by
  obtain ⟨fps, sw⟩ := s
  have hig : i < g.length := by
    unfold lstAt at h
    rw [Option.bind_eq_some_iff] at h
    obtain ⟨o, h1, _⟩ := h
    exact rd_lt h1
  have h' : lstAt i (g ++ [some r]) = some xs := by unfold lstAt at h ⊢; rw [rd_append_left hig]; exact h
  obtain ⟨p, vs, fp, hf, hσ, hp, hz, ow, hrd⟩ := sw.list h'
  have hr : rd (g ++ [some r]) i ≠ none := by rw [hrd]; simp
  have hN : rd (g ++ [some r]) g.length = some r := by rw [rd_snoc, if_pos rfl]
  have hNn : rd (g ++ [some r]) g.length ≠ none := by rw [hN]; simp
  obtain ⟨w', e1, ow'⟩ := sw.own _ _ hN
  rw [← hl, get_snoc, if_pos rfl] at e1
  cases e1
  have ndN := (sw.nd g.length hNn).1
  have ndi := (sw.nd i hr).1
  rw [hf] at ndi
  have ndfp := (List.nodup_cons.mp ndi).2
  have dj : ∀ x ∈ fps g.length, x ∉ fp := fun x hx hy => by
    have := sw.dj g.length i x hNn hr hx (by rw [hf]; exact List.mem_cons_of_mem _ hy)
    omega
  have hσ' : σ[i]? = some (some (.ref p)) := by rw [get_snoc, if_neg (by omega)] at hσ; exact hσ
  have others : ∀ (z : OD) (fq : List Addr), (∀ x ∈ fq, x ∈ fp ∨ x ∈ fps g.length) → ∀ j, j ≠ i → rd (g.set i (some z)) j ≠ none → rd (g.set i (some z)) j = rd (g ++ [some r]) j ∧ σ[j]? = (σ ++ [some w])[j]? ∧ ∀ x ∈ fq, x ∉ fps j := fun z fq sub j hj hn => by
    rw [rd_set, if_neg (Ne.symm hj)] at hn
    have hjl : j < g.length := by
      obtain ⟨o, ho⟩ := Option.ne_none_iff_exists'.mp hn
      exact rd_lt ho
    have hjn : rd (g ++ [some r]) j ≠ none := by rw [rd_append_left hjl]; exact hn
    refine ⟨by rw [rd_set, if_neg (Ne.symm hj), rd_append_left hjl], by rw [get_snoc, if_neg (by omega)], fun x hx hy => ?_⟩
    rcases sub x hx with a | a
    · exact hj (sw.dj j i x hjn hr hy (by rw [hf]; exact List.mem_cons_of_mem _ a))
    · have := sw.dj j g.length x hjn hNn hy a
      omega
  have go : ∀ (vs' : List V) (xs' : List OD) (fq : List Addr), vs'.length ≤ sizeLine → Owns K F H fq vs' xs' → fq.Nodup → (∀ x ∈ fq, x ∈ fp ∨ x ∈ fps g.length) → StR K B F0 F (upd H p (.lst vs')) σ (g.set i (some (.lst xs'))) := fun vs' xs' fq hz' ow2 nd2 sub =>
    sw.change hf hr hz' ow2 nd2 (fun x hx => by
      rcases sub x hx with a | a
      · exact .inl a
      · exact .inr ⟨g.length, by omega, hNn, a⟩) (by rw [List.length_set]; exact hl) (others _ fq sub) (by rw [rd_set, if_pos rfl, if_pos hig]) hσ'
  refine ⟨p, vs, hσ', hp, ow.length, hz, fun hz2 => ?_, fun n => ?_⟩
  · refine go (vs ++ [w]) (xs ++ [r]) (fp ++ (fps g.length ++ [])) (by simpa using hz2) (Owns.append ow (.cons ow' .nil)) ?_ fun x hx => ?_
    · rw [List.append_nil]
      exact List.nodup_append.mpr ⟨ndfp, ndN, fun x hx y hy e => dj y hy (by rw [← e]; exact hx)⟩
    · rw [List.append_nil] at hx
      exact List.mem_append.mp hx
  · obtain ⟨fq, a, b, c⟩ := Owns.set ow' n ow ndN dj
    exact go _ _ fq (by rw [List.length_set]; exact hz) a (b ndfp) c
/-- x.append(e) -/
theorem ss_app (i : Nat) {x m : Str} {e : Expr} {te : TE} {o : OX} {p apos cpos : Pos} (h : SO X e te o) (hm : m = "append" := by rfl) (hN : X.N[i]? = some x := by rfl) (hv : Vis X.env.scope x := by first | exact Or.inl rfl | exact Or.inr (Or.inl rfl) | exact Or.inr (Or.inr rfl))
    (hd : (x == ("__debug__" : Str)) = false := by decide) (hcd : (x == ("__classdict__" : Str)) = false := by decide)
    (hst : starEach [e] X.env = (false, eval e X.env) :: starEach [] X.env := by rfl)
    (hpe : ∀ {t : TA}, PE X (.Name x p) (tVar i) → PA X [e] t → PE X (.Call (.Attribute (.Name x p) m apos) [e] [] cpos) (tBM X.K "list" rAppend (tVar i) t) := by intro t a b; exact pe_bm PySem.F.plainAttrs_list PySem.F.slot_list_append PySem.F.type_list_append mt_append a b)
    (hs : swapsWith (.Call (.Attribute (.Name x p) m apos) [e] [] cpos) none pos.line X.env = pure false := by rfl) :
    SS X (.Expr (.Call (.Attribute (.Name x p) m apos) [e] [] cpos) pos) (tDrop (tBM X.K "list" rAppend (tVar i) (tCons te tNil))) (sApp i o) :=
  ⟨ps_expr (hpe (pe_var hN hv hd hcd) (pa_cons h.pe pa_nil hst)) hs, ⟨fun B F0 F H σ g P D s hw L => by
    obtain ⟨r, g', xs, ys, h1, h2, h3, h4, h5⟩ := hw
    have hs0 := s
    obtain ⟨fps, sw⟩ := s
    obtain ⟨q, vs, fp, hf, hσ, hq, hz, ow, hrd⟩ := sw.list h2
    refine ⟨.ref q, hσ, .inl ⟨rfl, vs, .inl (.inl hq)⟩, ?_⟩
    refine h.sem.run B F0 F H σ g [] [] sw.len rfl (nil2 hs0) r g' h1 _ fun hl F' H' v hh s' => ?_
    simp only [List.append_nil] at s'
    obtain ⟨p', vs', a, b, c, d, f1, _⟩ := StR.chg1 (by rw [hl]; exact sw.len) s' h3
    rw [hσ] at a
    cases a
    have hlt : vs'.length < sizeLine := by rw [c, ← sz_eq]; exact h4
    exact ⟨q, vs', v, rfl, rfl, b, hlt, L.nx F' _ σ _ (f1 hlt) h5⟩⟩⟩
/-- x[k] = e -/
theorem ss_setIx (i : Nat) {x : Str} {k e : Expr} {tk te : TE} {fk : EX} {vk : List Nat} {o : OX} {p sp : Pos} (hk : SE X k tk fk vk) (h : SO X e te o) (hN : X.N[i]? = some x := by rfl) (hv : Vis X.env.scope x := by first | exact Or.inl rfl | exact Or.inr (Or.inl rfl) | exact Or.inr (Or.inr rfl))
    (hd : (x == ("__debug__" : Str)) = false := by decide) (hcd : (x == ("__classdict__" : Str)) = false := by decide)
    (hpe : PE X (.Name x p) (tVar i) → PE X k tk → PG X (.Subscript (.Name x p) k sp) (gSub (tVar i) tk rSetL) := by intro a b; exact pg_sub a b set_list)
    (hs : swapsWithSole [.Subscript (.Name x p) k sp] e pos.line X.env = pure false := by rfl) (hw : swappedStores [.Subscript (.Name x p) k sp] e X.env = pure none := by rfl) (h1 : (assignEach [.Subscript (.Name x p) k sp] X.env).map (·.2) = [assign (.Subscript (.Name x p) k sp) X.env] := by rfl) :
    SS X (.Assign [.Subscript (.Name x p) k sp] e pos) (tAsg te (gSub (tVar i) tk rSetL)) (sSet i fk o) :=
  ⟨ps_asg h.pe (hpe (pe_var hN hv hd hcd) hk.pe) hs hw h1, ⟨fun B F0 F H σ g P D s hw L => by
    obtain ⟨r, g', j, n, xs, h1, h2, h3, h4, h5⟩ := hw
    refine h.sem.run B F0 F H σ g [] [] s.len rfl (nil2 s) r g' h1 _ fun hl F' H' v hh s' => ?_
    simp only [List.append_nil] at s'
    have hl' : σ.length = g'.length := by rw [hl]; exact s.len
    obtain ⟨p', vs', a, b, c, d, _, f2⟩ := StR.chg1 hl' s' h3
    refine ⟨.ref p', a, ?_⟩
    -- the index, beside the value
    obtain ⟨fps, sw⟩ := s'
    obtain ⟨F1, e1, sf, s1, he, hf, vw⟩ := sw.view hl' vk
    refine hk.sem.runD s1 he (by rw [hf fk.d hk.sem.cong.d]; exact h2) fun F2 H2 x2 gr sm rx => ?_
    cases rx
    have s3 : StR X.K B F0 F' H2 (σ ++ [some v]) (g' ++ [some r]) := ⟨fps, sw.grow ⟨Same.refl _, gr.hh, fun _ _ e => .inl e⟩ (sw.fh.trans gr.hh)⟩
    obtain ⟨p2, vs2, a2, b2, c2, d2, _, f3⟩ := StR.chg1 hl' s3 h3
    rw [a] at a2
    cases a2
    exact ⟨p', vs2, j, n, rfl, rfl, b2, by rw [← place_eq, c2]; exact h4, L.nx F' _ σ _ (f3 n) h5⟩⟩⟩
/-- x.pop() -/
theorem ss_pop (i : Nat) {x m : Str} {p apos cpos : Pos} (hm : m = "pop" := by rfl) (hN : X.N[i]? = some x := by rfl) (hv : Vis X.env.scope x := by first | exact Or.inl rfl | exact Or.inr (Or.inl rfl) | exact Or.inr (Or.inr rfl))
    (hd : (x == ("__debug__" : Str)) = false := by decide) (hcd : (x == ("__classdict__" : Str)) = false := by decide)
    (hpe : PE X (.Name x p) (tVar i) → PE X (.Call (.Attribute (.Name x p) m apos) [] [] cpos) (tBM0 X.K "list" rPop (tVar i)) := by intro a; exact pe_bm0 PySem.F.plainAttrs_list PySem.F.slot_list_pop PySem.F.type_list_pop mt_pop a)
    (hs : swapsWith (.Call (.Attribute (.Name x p) m apos) [] [] cpos) none pos.line X.env = pure false := by rfl) :
    SS X (.Expr (.Call (.Attribute (.Name x p) m apos) [] [] cpos) pos) (tDrop (tBM0 X.K "list" rPop (tVar i))) (sPop i) :=
  ⟨ps_expr (hpe (pe_var hN hv hd hcd)) hs, ⟨fun B F0 F H σ g P D s hw L => by
    obtain ⟨xs, h2, h3, h5⟩ := hw
    obtain ⟨fps, sw⟩ := s
    obtain ⟨q, vs, fp, hf, hσ, hq, hz, ow, hrd⟩ := sw.list h2
    have hr : rd g i ≠ none := by rw [hrd]; simp
    have hlen := ow.length
    obtain ⟨y, hy⟩ : ∃ y, vs[vs.length - 1]? = some y := by
      have : 0 < vs.length := by rw [hlen]; exact List.length_pos_iff.mpr h3
      exact ⟨vs[vs.length - 1], by simp [this]⟩
    obtain ⟨fq, a, b, c⟩ := Owns.dropLast xs ow
    have ndi := (sw.nd i hr).1
    rw [hf] at ndi
    refine ⟨.ref q, hσ, .inl ⟨rfl, vs, .inl (.inl hq)⟩, q, vs, y, rfl, rfl, hq, hy, L.nx F _ σ _ ?_ h5⟩
    refine sw.change hf hr (by rw [List.length_dropLast]; omega) a (b (List.nodup_cons.mp ndi).2) (fun x hx => .inl (c x hx)) (by rw [List.length_set]; exact sw.len) (fun j hj hn => ?_) (by rw [rd_set, if_pos rfl, if_pos (rd_lt hrd)]) hσ
    rw [rd_set, if_neg (Ne.symm hj)] at hn ⊢
    exact ⟨rfl, rfl, fun x hx hy => hj (sw.dj j i x hn hr hy (by rw [hf]; exact List.mem_cons_of_mem _ (c x hx)))⟩⟩⟩
end
end Z
namespace Z
open PySem L2
open Classical
section
variable {X : Cx} {pos : Pos}
theorem get_list : PGet X (rIxL X.K) := by
  intro pins s σ H x y v u Q I rx ry h
  obtain ⟨p, xs, i, z, rfl, rfl, hq, he, q⟩ := h
  cases rx
  obtain ⟨t, rfl⟩ := ry
  obtain ⟨its, r, pl, hz⟩ := I.list hq
  obtain ⟨j, h1, h2, h3, h4, h5⟩ := atI_get he
  obtain ⟨w, ew, rw'⟩ := r.get h2
  have hl := r.length
  have hn := line63
  have fin : EP X pins σ Q w s := ⟨z, H, I, rw', q⟩
  by_cases h0 : 0 ≤ i
  · have hj : i.toNat = j := by
      rw [seqIndex_of h0 h5] at h1
      exact Option.some.inj h1
    exact PySem.wpAny_getItem_list pl.isList h0 (by omega) (by rw [hj]; simpa using ew) fin
  · have hj : (i + (its.toArray.size : Int)).toNat = j := by
      rw [seqIndex_neg (by omega) h4] at h1
      rw [List.size_toArray, ← hl]
      exact Option.some.inj h1
    exact PySem.wpAny_getItem_list_neg pl.isList (by omega) (by rw [List.size_toArray] <;> omega) (by omega) (by rw [hj]; simpa using ew) fin
/-- op= on numbers -/
structure AugR (X : Cx) (op : Operator) (t : TIp) (dop : D → D → Option OD) : Prop where
  ip : PIp X op t
  sem : ∀ (x y r : Int) (H : Hp) (Q : VK), dop (.int x) (.int y) = some (fI r) → Q (.int r) H → t (.int x) (.int y) H Q
theorem fI_inj {a b : Int} (h : some (fI a) = some (fI b)) : a = b := by
  simp only [fI, Option.some.injEq, OD.frz.injEq, D.int.injEq] at h
  exact h
theorem g_add : AugR X .Add (ipI fun i j => i + j) opAdd := ⟨ip_add, fun x y r H Q h q => ⟨x, y, rfl, rfl, by have := fI_inj h; show Q (.int (x + y)) H; rw [this]; exact q⟩⟩
theorem g_sub : AugR X .Sub (ipI fun i j => i - j) opSub := ⟨ip_sub, fun x y r H Q h q => ⟨x, y, rfl, rfl, by have := fI_inj h; show Q (.int (x - y)) H; rw [this]; exact q⟩⟩
theorem ss_aug (i : Nat) {x : Str} {e : Expr} {te : TE} {f : EX} {vs : List Nat} {op : Operator} {ti : TIp} {dop : D → D → Option OD} {pos' : Pos} (ho : AugR X op ti dop) (hN : X.N.Nodup) (h : SE X e te f vs) (hi : X.N[i]? = some x := by rfl) (hx : Loc X.env.scope x := by first | exact Or.inl rfl | exact Or.inr rfl)
    (hf : X.fn x = true ∨ X.env.scope.names.lookup x = some .local := by first | exact .inl rfl | exact .inr rfl) : SS X (.AugAssign (.Name x pos') op e pos) (tAug i te ti) (sAug i dop f) :=
  ⟨ps_aug hN hi hx h.pe ho.ip hf, ⟨fun B F0 F H σ g P D s hw L => by
    obtain ⟨a, b, r, h1, h2, h3, h4⟩ := hw
    rw [rd_erG, Option.map_eq_some_iff] at h1
    obtain ⟨o, h5, h6⟩ := h1
    obtain ⟨fps, sw⟩ := s
    obtain ⟨v, c, ow⟩ := sw.own i o h5
    generalize fps i = fp0 at ow
    have hv : v = .int a := by
      cases ow with
      | frz rp =>
        rw [OD.er] at h6
        subst h6
        cases rp
        rfl
      | lst => rw [OD.er] at h6; cases h6
      | tup => rw [OD.er] at h6; cases h6
    subst hv
    refine ⟨.int a, c, ?_⟩
    refine run_viewD h.sem ⟨fps, sw⟩ h2 rfl fun H' v' _ s' rp => ?_
    cases rp
    refine ho.sem a b r H' _ h3 ?_
    have := StR.st1 (p := []) (q := []) s'.len (s'.frz (.int r)) i
    simp only [List.append_nil] at this
    exact L.nx F H' _ _ this h4⟩⟩
/-- x[k] op= e, of a list of numbers -/
theorem ss_augIx (i : Nat) {x : Str} {k e : Expr} {tk te : TE} {fk f : EX} {vk vs : List Nat} {op : Operator} {ti : TIp} {dop : D → D → Option OD} {p sp : Pos} (ho : AugR X op ti dop) (hk : SE X k tk fk vk) (h : SE X e te f vs) (hN : X.N[i]? = some x := by rfl) (hv : Vis X.env.scope x := by first | exact Or.inl rfl | exact Or.inr (Or.inl rfl) | exact Or.inr (Or.inr rfl))
    (hd : (x == ("__debug__" : Str)) = false := by decide) (hcd : (x == ("__classdict__" : Str)) = false := by decide)
    (hau : ∀ ov iv new, augStore k ov iv new = (do holding [new, ov, iv] (setItem ov iv new); release [new, ov, iv] []; pure .next) := by intros; rfl) :
    SS X (.AugAssign (.Subscript (.Name x p) k sp) op e pos) (tAugS (tVar i) tk te (rIxL X.K) ti rSetL) (sAugSet i fk dop f) :=
  ⟨ps_augS (pe_var hN hv hd hcd) hk.pe get_list h.pe ho.ip set_list hau, ⟨fun B F0 F H σ g P D s hw L => by
    obtain ⟨j, n, xs, a, b, r, h1, h2, h3, h4, h5, h6, h7⟩ := hw
    obtain ⟨fps, sw⟩ := s
    obtain ⟨q, vs', fp, hf, hσ, hq, hz, ow, hrd⟩ := sw.list h2
    refine ⟨.ref q, hσ, ?_⟩
    refine run_viewD hk.sem ⟨fps, sw⟩ h1 rfl fun H1 v1 hh1 s1 rp => ?_
    cases rp
    obtain ⟨v, fq, e1, o1, _, _⟩ := ow.get h4
    have hv : v = .int a := by
      cases o1 with
      | frz rp => cases rp; rfl
    subst hv
    refine ⟨q, vs', j, .int a, rfl, rfl, .inl (.inl (hh1 _ _ hq)), ?_, ?_⟩
    · unfold atI
      rw [← place_eq, ow.length, h3]
      exact e1
    · refine run_viewD h.sem s1 h5 rfl fun H2 v2 hh2 s2 rp => ?_
      cases rp
      refine ho.sem a b r H2 _ h6 ?_
      have s3 := s2.frz (K := X.K) (.int r)
      obtain ⟨p2, vs2, a2, b2, c2, d2, _, f3⟩ := StR.chg1 s2.len s3 h2
      rw [hσ] at a2
      cases a2
      exact ⟨q, vs2, j, n, rfl, rfl, b2, by rw [← place_eq, c2]; exact h3, L.nx F _ σ _ (f3 n) h7⟩⟩⟩

/-! ### tuples of what is taken -/
theorem gather {K : PySem.W.Frag} {B F0 F H : Hp} {σ : L2.St} {g : G} (hl : σ.length = g.length) {ws : List V} {os : List OD} (hw : ws.length = os.length) (hz : ws.length ≤ sizeLine) (s : StR K B F0 F H (σ ++ ws.map some) (g ++ os.map some)) {a : Addr} (ha : H a = none) :
    StR K B F0 F (upd H a (.tup ws)) (σ ++ [some (.ref a)]) (g ++ [some (.tup os)]) := by
  obtain ⟨fps, w⟩ := s
  have ng := new_grow w.fh (o := .tup ws) ha
  have w2 := w.grow ng.1 ng.2
  have rdos : ∀ j, rd (g ++ os.map some) j = if j < g.length then rd g j else os[j - g.length]? := fun j => by
    by_cases hj : j < g.length
    · rw [rd_append_left hj, if_pos hj]
    · rw [rd_append_right (by omega), if_neg hj]
      unfold rd
      rw [List.getElem?_map]
      cases os[j - g.length]? <;> rfl
  have main : ∀ (k : Nat), k ≤ os.length → ∃ fp, Owns K F (upd H a (.tup ws)) fp (ws.drop k) (os.drop k) ∧ fp.Nodup ∧ ∀ x ∈ fp, ∃ j, k ≤ j ∧ j < os.length ∧ x ∈ fps (g.length + j) := by
    intro k hk
    induction hm : os.length - k generalizing k with
    | zero =>
      have : k = os.length := by omega
      subst this
      rw [List.drop_eq_nil_of_le (by omega), List.drop_eq_nil_of_le (Nat.le_refl _)]
      exact ⟨[], .nil, List.nodup_nil, fun x hx => by simp at hx⟩
    | succ m ih =>
      have hk' : k < os.length := by omega
      obtain ⟨fp, a1, a2, a3⟩ := ih (k + 1) (by omega) (by omega)
      have hr : rd (g ++ os.map some) (g.length + k) = some os[k] := by
        rw [rdos, if_neg (by omega), Nat.add_sub_cancel_left]; simp [hk']
      obtain ⟨v, b1, b2⟩ := w2.own _ _ hr
      rw [List.getElem?_append_right (by omega), hl, Nat.add_sub_cancel_left, List.getElem?_map] at b1
      have hv : ws[k]? = some v := by
        cases q : ws[k]? with
        | none => rw [q] at b1; cases b1
        | some z => rw [q] at b1; cases b1; rfl
      obtain ⟨hlt, hv'⟩ := List.getElem?_eq_some_iff.mp hv
      rw [List.drop_eq_getElem_cons hlt, List.drop_eq_getElem_cons hk', hv']
      have nd := (w2.nd (g.length + k) (by rw [hr]; simp)).1
      refine ⟨fps (g.length + k) ++ fp, .cons b2 a1, List.nodup_append.mpr ⟨nd, a2, fun x hx y hy e => ?_⟩, fun x hx => ?_⟩
      · subst e
        obtain ⟨j, c1, c2, c3⟩ := a3 x hy
        have hrj : rd (g ++ os.map some) (g.length + j) = some os[j] := by
          rw [rdos, if_neg (by omega), Nat.add_sub_cancel_left]; simp [c2]
        have := w2.dj _ _ x (by rw [hr]; simp) (by rw [hrj]; simp) hx c3
        omega
      · rcases List.mem_append.mp hx with hx | hx
        · exact ⟨k, Nat.le_refl _, hk', hx⟩
        · obtain ⟨j, c1, c2, c3⟩ := a3 x hx
          exact ⟨j, by omega, c2, c3⟩
  obtain ⟨fp, h1, h2, h3⟩ := main 0 (Nat.zero_le _)
  rw [List.drop_zero, List.drop_zero] at h1
  have hrj : ∀ j, j < os.length → rd (g ++ os.map some) (g.length + j) ≠ none := fun j hj => by
    rw [rdos, if_neg (by omega), Nat.add_sub_cancel_left]; simp [hj]
  have w0 : StW K B F0 F (upd H a (.tup ws)) σ g fps := w2.re id hl (fun j o hj => ⟨by rw [id, rd_append_left (rd_lt hj)]; exact hj, fun v hv => by
    rw [id, List.getElem?_append_left (by rw [hl]; exact rd_lt hj)] at hv; exact hv⟩) fun j k _ _ e => e
  refine w0.put (.tup upd_same hz h1) (List.nodup_cons.mpr ⟨fun hx => ?_, h2⟩) (fun x hx => ?_) fun i x hi hx hx' => ?_
  · obtain ⟨j, _, c2, c3⟩ := h3 a hx
    obtain ⟨u, hu⟩ := w.there (hrj j c2) c3
    rw [ha] at hu; cases hu
  · rcases List.mem_cons.mp hx with e | hx
    · subst e; exact ⟨w.fh.free ha, w.bh.free ha⟩
    · obtain ⟨j, _, c2, c3⟩ := h3 x hx
      exact (w.nd _ (hrj j c2)).2 x c3
  · have hil : i < g.length := by
      obtain ⟨o, ho⟩ := Option.ne_none_iff_exists'.mp hi
      exact rd_lt ho
    have hi' : rd (g ++ os.map some) i ≠ none := by rw [rd_append_left hil]; exact hi
    rcases List.mem_cons.mp hx' with e | hx'
    · subst e
      obtain ⟨u, hu⟩ := w.there hi' hx
      rw [ha] at hu; cases hu
    · obtain ⟨j, _, c2, c3⟩ := h3 x hx'
      have := w.dj _ _ x hi' (hrj j c2) hx c3
      omega
theorem so_tup {es : List Expr} {ta : TA} {os : List OX} {k : Nat} (h : SOs X es ta os) (hl : os.length ≤ 1000 := by exact Nat.le_of_ble_eq_true rfl) : SO X (.Tuple es k pos) (tTup ta) (oTup os) := ⟨pe_tup h.pa, ⟨fun B F0 F H σ g p q hl' hp s r g' ho Q kk => by
  unfold oTup at ho
  rw [Option.map_eq_some_iff] at ho
  obtain ⟨⟨rs, g2⟩, h1, h2⟩ := ho
  cases h2
  refine h.sem.run B F0 F H σ g p q hl' hp s rs g2 h1 _ fun l2 F' H' ws hh lw s' => ?_
  have len : ∀ {os : List OX} {g : G} {rs : List OD} {g' : G}, oList os g = some (rs, g') → rs.length = os.length := by
    intro os
    induction os with
    | nil => intro g rs g' h; cases h; rfl
    | cons o os ih =>
      intro g rs g' h
      simp only [oList] at h
      rw [Option.bind_eq_some_iff] at h
      obtain ⟨⟨r, g1⟩, h1, h⟩ := h
      rw [Option.bind_eq_some_iff] at h
      obtain ⟨⟨rs', g2⟩, h2, h⟩ := h
      cases h
      rw [List.length_cons, List.length_cons, ih h2]
  have hz : ws.length ≤ sizeLine := by rw [lw, len h1]; exact Nat.le_trans hl (by decide)
  refine ⟨hz, fun x hx => ?_⟩
  rw [← List.append_assoc, ← List.append_assoc] at s'
  refine kk l2 F' _ (.ref x) ?_ (gather (by simp only [List.length_append]; omega) lw hz s' hx)
  exact hh.trans fun b u e => by rw [upd_ne (ne_of_none e hx)]; exact e⟩⟩

/-! ### defs -/
theorem start_rd (n : Nat) (ds : List D) (i : Nat) : rd (Z.start n ds) i = (ds[i]?).map .frz := by
  unfold Z.start
  by_cases hi : i < ds.length
  · rw [rd_append_left (by rw [List.length_map]; exact hi)]
    unfold rd
    rw [List.getElem?_map]
    cases ds[i]? <;> rfl
  · rw [rd_append_right (by rw [List.length_map]; omega), List.length_map, List.getElem?_eq_none (by omega)]
    unfold rd
    rw [List.getElem?_replicate]
    split <;> rfl
theorem start_st {K : PySem.W.Frag} {F H : Hp} (N : List Str) {vs : List V} {ds : List D} (hs : Same F H) (r : Reps K F vs ds) : StR K H F F H (L2.start N vs) (Z.start N.length ds) := by
  refine ⟨fun _ => [], fun i o h => ?_, fun i _ => ⟨List.nodup_nil, fun p hp => by simp at hp⟩, fun i j p _ _ a => by simp at a, ?_, Same.refl _, fun _ _ e => .inl e, hs, Same.refl _⟩
  · rw [start_rd, Option.map_eq_some_iff] at h
    obtain ⟨d, h1, rfl⟩ := h
    obtain ⟨v, h2, h3⟩ := r.get h1
    refine ⟨v, ?_, .frz h3⟩
    unfold L2.start
    rw [List.getElem?_append_left (by rw [List.length_map]; exact (List.getElem?_eq_some_iff.mp h2).1), List.getElem?_map, h2]
    rfl
  · unfold L2.start Z.start
    simp only [List.length_append, List.length_map, List.length_replicate, r.length]
/-- a def's body does its work, wherever it runs -/
def BodyOk (P : Program) (w : World) (K : PySem.W.Frag) (mg : Str → Option Value) (base : Heap) (N : List Str) (qual : Str) (st : Stmt) (f : Addr) (k : Nat) (wk : S) : Prop :=
  ∀ (cdv : Value) (A : Around) (outer : List Env) (s : Shared) (H : Hp) (E : XK), Room k (A.deeper (PyProof.Rows.envOfC qual (defScope st) s.heap.objs.size f cdv)) →
    SeerF P base (A.deeper (PyProof.Rows.envOfC qual (defScope st) s.heap.objs.size f cdv)) (PyProof.Rows.envOfC qual (defScope st) s.heap.objs.size f cdv :: outer) → ∃ t, SSs (cxOf CX0 P w K mg base N qual (defScope st) f cdv A outer s H E).nox (defBody st) t wk
/-- THE RULE: a def of the text by its work at the data level -/
theorem fn_data {P : Program} {w : World} {K : PySem.W.Frag} {mg : Str → Option Value} {base : Heap} {x qual : Str} {st : Stmt} {f : Addr} {fd : FuncData} {N ps : List Str} {k : Nat} {φ : Fn} {wk : S} {n m : Nat} (F : Fun K x qual st f fd) (S : FnScope N ps (defScope st)) (hn : ps.length = n) (hm : N.length = m)
    (body : BodyOk P w K mg base N qual st f k wk) (hd : Does m wk φ) (ht : P.given.tree = none) (hns : base.NoSeer) (hk : 32 ≤ k := by decide) (g1 : (defScope st).isGenerator = false := by rfl) (g2 : (defScope st).isCoroutine = false := by rfl) :
    FnOk P w K mg base CX0 (k + 1) f fd ps (spOf K n φ) := by
  refine F.ok S (fun vs H Q E h => by rw [hn]; exact h.1) fun cdv A outer s H vs Q E hr h => ?_
  obtain ⟨hl, F0, ds, o, hs, rr, ho, q⟩ := h
  obtain ⟨t, hb⟩ := body cdv A outer s H E hr ⟨ht, hns, by have := hr.dp; omega, _, _, rfl, g1, g2, rfl, rfl⟩
  refine ⟨t, hb.ps, ?_⟩
  have hw := hd ds o ho
  rw [← hm] at hw
  have fin : ∀ F' H' v, StR K H F0 F' H' [some v] [some o] → Q v H' := fun F' H' v s' => by
    obtain ⟨fps, sw⟩ := s'
    have hr0 : rd ([some o] : G) 0 = some o := rfl
    obtain ⟨v', e1, ow⟩ := sw.own 0 o hr0
    cases e1
    have nd := sw.nd 0 (by rw [hr0]; simp)
    exact q F' H' (fps 0) v ⟨⟨sw.ff, sw.bh, sw.new⟩, sw.fh, ow, nd.1, nd.2⟩
  exact hb.sem.run H F0 F0 H (L2.start N vs) (Z.start N.length ds) _ _ (start_st N hs rr) hw ⟨fun F' H' σ g s' e => by
    have := s'.frz (K := K) (v := .non) .non
    rw [← e] at this
    exact fin F' H' .non (StR.suf s'.len this), fun F' H' v r s' e => by
    subst e
    exact fin F' H' v s', fun _ _ _ _ _ h => h.elim, fun _ _ _ _ _ h => h.elim⟩
end
end Z
/-! Rewriting rules for work at the data level. -/
namespace Z
open PySem
open Classical in
/-- a def by its arguments' form, what it asks, what it is worth -/
noncomputable def Spc {α : Type} (enc : α → List D) (P : α → Prop) (f : α → OD) : Fn := fun ds => if h : ∃ a, ds = enc a ∧ P a then some (f h.choose) else none
theorem spc_does {α : Type} {enc : α → List D} {P : α → Prop} {f : α → OD} {n : Nat} {w : S} (h : ∀ a, P a → w { nx := fun _ => f a = .frz .non, rt := fun r => r = f a } (start n (enc a))) : Does n w (Spc enc P f) := by
  intro ds o ho
  unfold Spc at ho
  split at ho
  · rename_i hx
    obtain ⟨h1, h2⟩ := hx.choose_spec
    have h3 := h _ h2
    rw [← h1] at h3
    cases ho
    exact h3
  · cases ho
theorem spc_eq {α : Type} {enc : α → List D} {P : α → Prop} {f : α → OD} (inj : ∀ a b, enc a = enc b → a = b) {a : α} (h : P a) : Spc enc P f (enc a) = some (f a) := by
  unfold Spc
  have hx : ∃ b, enc a = enc b ∧ P b := ⟨a, rfl, h⟩
  rw [dif_pos hx]
  rw [← inj _ _ hx.choose_spec.1]

section
variable {e : Ev} {f a b c : EX} {op op' : D → D → Option OD}
@[simp] theorem rd_nil {α : Type} (i : Nat) : rd ([] : List (Option α)) i = none := rfl
@[simp] theorem rd_zero {α : Type} (x : Option α) (xs : List (Option α)) : rd (x :: xs) 0 = x := by cases x <;> rfl
@[simp] theorem rd_succ {α : Type} (x : Option α) (xs : List (Option α)) (i : Nat) : rd (x :: xs) (i + 1) = rd xs i := rfl
@[simp] theorem erG_nil : erG [] = [] := rfl
@[simp] theorem erG_cons (o : Option OD) (g : G) : erG (o :: g) = o.map OD.er :: erG g := rfl
@[simp] theorem er_frz (d : D) : (OD.frz d).er = d := rfl
@[simp] theorem er_lst (xs : List OD) : (OD.lst xs).er = .lst (xs.map OD.er) := by rw [OD.er, OD.ers_map]
@[simp] theorem er_tup (xs : List OD) : (OD.tup xs).er = .tup (xs.map OD.er) := by rw [OD.er, OD.ers_map]
@[simp] theorem er_fI (i : Int) : (fI i).er = .int i := rfl
@[simp] theorem er_fB (i : Bool) : (fB i).er = .bl i := rfl
@[simp] theorem closed_frz (d : D) : (OD.frz d).closed = d.scalar := rfl
@[simp] theorem closed_lst (xs : List OD) : (OD.lst xs).closed = xs.all OD.closed := by rw [OD.closed, OD.closeds_all]
@[simp] theorem closed_tup (xs : List OD) : (OD.tup xs).closed = xs.all OD.closed := by rw [OD.closed, OD.closeds_all]
@[simp] theorem closed_fI (i : Int) : (fI i).closed = true := rfl
@[simp] theorem closed_fB (i : Bool) : (fB i).closed = true := rfl
@[simp] theorem eVar_ev (i : Nat) : eVar i e = (rd e i).map .frz := rfl
@[simp] theorem eVar_d (i : Nat) : (eVar i).d e = rd e i := by
  unfold EX.d eVar
  cases rd e i <;> rfl
@[simp] theorem eC_ev (d : D) : eC d e = some (.frz d) := rfl
@[simp] theorem eC_d (d : D) : (eC d).d e = some d := rfl
@[simp] theorem eOp_ev : eOp op a b e = (a.d e).bind fun x => (b.d e).bind fun y => op x y := rfl
@[simp] theorem eOp_d : (eOp op a b).d e = (a.d e).bind fun x => (b.d e).bind fun y => (op x y).map OD.er := by
  show Option.map OD.er ((a.d e).bind fun x => (b.d e).bind fun y => op x y) = _
  cases a.d e with
  | none => rfl
  | some x => cases b.d e <;> rfl
@[simp] theorem eUn_ev (op : D → Option OD) : eUn op a e = (a.d e).bind op := rfl
@[simp] theorem eUn_d (op : D → Option OD) : (eUn op a).d e = (a.d e).bind fun x => (op x).map OD.er := by
  unfold EX.d eUn
  cases h : Option.map OD.er (a e) <;> simp [EX.d, h]
@[simp] theorem eds_nil : eds [] e = some [] := rfl
@[simp] theorem eds_cons (fs : List EX) : eds (f :: fs) e = (f.d e).bind fun x => (eds fs e).bind fun xs => some (x :: xs) := rfl
@[simp] theorem eods_nil : eods [] e = some [] := rfl
@[simp] theorem eods_cons (fs : List EX) : eods (f :: fs) e = (f e).bind fun x => (eods fs e).bind fun xs => some (x :: xs) := rfl
@[simp] theorem eCall_ev (φ : Fn) (fs : List EX) : eCall φ fs e = (eds fs e).bind φ := rfl
@[simp] theorem eCall_d (φ : Fn) (fs : List EX) : (eCall φ fs).d e = (eds fs e).bind fun ds => (φ ds).map OD.er := by
  unfold EX.d eCall
  cases eds fs e <;> rfl
@[simp] theorem eTup_ev (fs : List EX) : eTup fs e = (eods fs e).map .tup := rfl
@[simp] theorem eTup_d (fs : List EX) : (eTup fs).d e = (eods fs e).map fun xs => .tup (xs.map OD.er) := by
  unfold EX.d eTup
  cases eods fs e <;> simp
@[simp] theorem eLst_ev (fs : List EX) : eLst fs e = (eods fs e).map .lst := rfl
@[simp] theorem eLst_d (fs : List EX) : (eLst fs).d e = (eods fs e).map fun xs => .lst (xs.map OD.er) := by
  unfold EX.d eLst
  cases eods fs e <;> simp
@[simp] theorem tV_ev : tV f e = (f.d e).bind D.asB := rfl
@[simp] theorem asB_bl (x : Bool) : D.asB (.bl x) = some x := rfl
@[simp] theorem tAnd_ev (s t : TX) : tAnd s t e = (s e).bind fun x => if x then t e else some false := rfl
@[simp] theorem tOr_ev (s t : TX) : tOr s t e = (s e).bind fun x => if x then some true else t e := rfl
@[simp] theorem tNot_ev (s : TX) : tNot s e = (s e).map (!·) := rfl
@[simp] theorem tYes_ev : tYes e = some true := rfl
@[simp] theorem eIf_ev (t : TX) : eIf t a b e = (t e).bind fun x => if x then a e else b e := rfl
@[simp] theorem eIf_d (t : TX) : (eIf t a b).d e = (t e).bind fun x => if x then a.d e else b.d e := by
  unfold EX.d eIf
  cases t e with
  | none => rfl
  | some x => cases x <;> rfl
@[simp] theorem eAnd_ev : eAnd a b e = ((a.d e).bind D.asB).bind fun x => if x then b e else some (fB false) := rfl
@[simp] theorem eAnd_d : (eAnd a b).d e = ((a.d e).bind D.asB).bind fun x => if x then b.d e else some (.bl false) := by
  unfold EX.d eAnd
  cases h : ((Option.map OD.er (a e)).bind D.asB) with
  | none => simp [EX.d, h]
  | some x => cases x <;> simp [EX.d, h]
@[simp] theorem eOr_ev : eOr a b e = ((a.d e).bind D.asB).bind fun x => if x then some (fB true) else b e := rfl
@[simp] theorem eOr_d : (eOr a b).d e = ((a.d e).bind D.asB).bind fun x => if x then some (.bl true) else b.d e := by
  unfold EX.d eOr
  cases h : ((Option.map OD.er (a e)).bind D.asB) with
  | none => simp [EX.d, h]
  | some x => cases x <;> simp [EX.d, h]
@[simp] theorem eNot_ev : eNot a e = ((a.d e).bind D.asB).map fun x => fB (!x) := rfl
@[simp] theorem eNot_d : (eNot a).d e = ((a.d e).bind D.asB).map fun x => .bl (!x) := by
  unfold EX.d eNot
  cases h : ((Option.map OD.er (a e)).bind D.asB) <;> simp [EX.d, h]
@[simp] theorem eCut_ev (lo hi : Option EX) : eCut a lo hi e = (a.d e).bind fun x => (eOpt lo e).bind fun l => (eOpt hi e).bind fun h => opCut x l h := rfl
@[simp] theorem eCut_d (lo hi : Option EX) : (eCut a lo hi).d e = (a.d e).bind fun x => (eOpt lo e).bind fun l => (eOpt hi e).bind fun h => (opCut x l h).map OD.er := by
  unfold EX.d eCut
  cases h : Option.map OD.er (a e) with
  | none => simp [EX.d, h]
  | some x =>
    cases h2 : eOpt lo e with
    | none => simp [EX.d, h]
    | some l => cases h3 : eOpt hi e <;> simp [EX.d, h]
@[simp] theorem eOpt_none : eOpt none e = some none := rfl
def asO : D → Option (Option Int)
  | .int i => some (some i)
  | _ => none
@[simp] theorem eOpt_some : eOpt (some f) e = (f.d e).bind asO := by
  show (f.d e).bind _ = (f.d e).bind asO
  cases f.d e with
  | none => rfl
  | some d => cases d <;> rfl
@[simp] theorem asO_int (i : Int) : asO (.int i) = some (some i) := rfl
@[simp] theorem opCut_lst (xs : List D) (lo hi : Option Int) : opCut (.lst xs) lo hi = some (.lst ((cut xs lo hi).map .frz)) := rfl
@[simp] theorem asI_int (i : Int) : asI (.int i) = some i := rfl
@[simp] theorem asL_lst (xs : List D) : asL (.lst xs) = some xs := rfl
@[simp] theorem asT_tup (xs : List D) : asT (.tup xs) = some xs := rfl
@[simp] theorem iLst_ev : iLst f e = (f.d e).bind asL := rfl
@[simp] theorem iTup_ev : iTup f e = (f.d e).bind asT := rfl
theorem iRng1_ev : iRng1 f e = ((f.d e).bind asI).bind fun j => if big62 j then some (rngL 0 j.toNat) else none := rfl
theorem iRng2_ev : iRng2 f a e = ((f.d e).bind asI).bind fun i => ((a.d e).bind asI).bind fun j => if big62 i && big62 j then some (rngL i (j - i).toNat) else none := rfl
theorem rRng1_ev : rRng1 f e = ((f.d e).bind asI).bind fun j => if big62 j then some (0, j.toNat) else none := rfl
theorem rRng2_ev : rRng2 f a e = ((f.d e).bind asI).bind fun i => ((a.d e).bind asI).bind fun j => if big62 i && big62 j then some (i, (j - i).toNat) else none := rfl
@[simp] theorem iZip_ev : iZip f a e = ((f.d e).bind asL).bind fun xs => ((a.d e).bind asL).bind fun ys => some (zipD xs ys) := rfl
@[simp] theorem iEnum_ev : iEnum f e = ((f.d e).bind asL).bind fun xs => some (zipD (rngL 0 xs.length) xs) := rfl
theorem big62_nat {n : Nat} (h : n < 2 ^ 62) : big62 (n : Int) = true := by
  unfold big62
  rw [decide_eq_true_eq]
  omega
theorem rng1_ok {n : Nat} (h : f.d e = some (.int n)) (hn : n < 2 ^ 60) : rRng1 f e = some (0, n) := by
  rw [rRng1_ev, h, Option.bind_some, asI_int, Option.bind_some, big62_nat (by omega), if_pos rfl, Int.toNat_natCast]
theorem rng2_ok {i j : Int} (h : f.d e = some (.int i)) (h' : a.d e = some (.int j)) (hi : i.natAbs < 2 ^ 60) (hj : j.natAbs < 2 ^ 60) : rRng2 f a e = some (i, (j - i).toNat) := by
  rw [rRng2_ev, h, h', Option.bind_some, asI_int, Option.bind_some, Option.bind_some, asI_int, Option.bind_some, show big62 i = true from by unfold big62; rw [decide_eq_true_eq]; omega, show big62 j = true from by unfold big62; rw [decide_eq_true_eq]; omega, Bool.and_self, if_pos rfl]
theorem irng1_ok {n : Nat} (h : f.d e = some (.int n)) (hn : n < 2 ^ 60) : iRng1 f e = some (rngL 0 n) := by
  rw [iRng1_ev, h, Option.bind_some, asI_int, Option.bind_some, big62_nat (by omega), if_pos rfl, Int.toNat_natCast]
theorem irng2_ok {i j : Int} (h : f.d e = some (.int i)) (h' : a.d e = some (.int j)) (hi : i.natAbs < 2 ^ 60) (hj : j.natAbs < 2 ^ 60) : iRng2 f a e = some (rngL i (j - i).toNat) := by
  rw [iRng2_ev, h, h', Option.bind_some, asI_int, Option.bind_some, Option.bind_some, asI_int, Option.bind_some, show big62 i = true from by unfold big62; rw [decide_eq_true_eq]; omega, show big62 j = true from by unfold big62; rw [decide_eq_true_eq]; omega, Bool.and_self, if_pos rfl]
@[simp] theorem gName_ev (i : Nat) (d : D) : gName i d e = some (e.set i (some d)) := rfl
theorem compGo_map {g : TG} {t : TX} {h : D → OD} : ∀ (ds : List D), (∀ d ∈ ds, ∃ e', g d e = some e' ∧ t e' = some true ∧ f e' = some (h d)) → compGo g t f e ds = some (ds.map h)
  | [], _ => rfl
  | d :: ds, k => by
    obtain ⟨e', h1, h2, h3⟩ := k d List.mem_cons_self
    simp only [compGo, h1, h2, h3, Option.bind_some, if_true, compGo_map ds fun d hd => k d (List.mem_cons_of_mem _ hd), List.map_cons]
theorem compGo_filter {g : TG} {t : TX} {p : D → Bool} {h : D → OD} : ∀ (ds : List D), (∀ d ∈ ds, ∃ e', g d e = some e' ∧ t e' = some (p d) ∧ (p d = true → f e' = some (h d))) → compGo g t f e ds = some ((ds.filter p).map h)
  | [], _ => rfl
  | d :: ds, k => by
    obtain ⟨e', h1, h2, h3⟩ := k d List.mem_cons_self
    simp only [compGo, h1, h2, Option.bind_some, compGo_filter ds fun d hd => k d (List.mem_cons_of_mem _ hd), List.filter_cons]
    cases hp : p d with
    | true => simp [h3 hp]
    | false => simp
/-! operators -/
@[simp] theorem opAdd_int (i j : Int) : opAdd (.int i) (.int j) = some (fI (i + j)) := rfl
@[simp] theorem opSub_int (i j : Int) : opSub (.int i) (.int j) = some (fI (i - j)) := rfl
@[simp] theorem opMul_int (i j : Int) : opMul (.int i) (.int j) = if mulOk i j then some (fI (i * j)) else none := rfl
@[simp] theorem opFdiv_int (i j : Int) : opFdiv (.int i) (.int j) = if j = 0 then none else some (fI (i.fdiv j)) := rfl
@[simp] theorem opMod_int (i j : Int) : opMod (.int i) (.int j) = if j = 0 then none else some (fI (i.fmod j)) := rfl
theorem natAbs_lit (n : Nat) : Int.natAbs (no_index (OfNat.ofNat n)) = n := rfl
theorem opPow_ok (i j : Int) : opPow (.int i) (.int j) = if 0 ≤ j ∧ j ≤ 1000000 ∧ i.natAbs < 2 ^ 64 then some (fI (i ^ j.toNat)) else none := rfl
theorem mul_lit (i j : Int) : mulOk i j = decide (i.natAbs.log2 + j.natAbs.log2 < 134217000) := rfl
@[simp] theorem opNeg_int (i : Int) : opNeg (.int i) = some (fI (-i)) := rfl
@[simp] theorem opLt_int (i j : Int) : opLt (.int i) (.int j) = some (fB (decide (i < j))) := rfl
@[simp] theorem opLe_int (i j : Int) : opLe (.int i) (.int j) = some (fB (decide (i ≤ j))) := rfl
@[simp] theorem opGt_int (i j : Int) : opGt (.int i) (.int j) = some (fB (decide (j < i))) := rfl
@[simp] theorem opGe_int (i j : Int) : opGe (.int i) (.int j) = some (fB (decide (j ≤ i))) := rfl
@[simp] theorem okd_int (n : Nat) (i : Int) : D.okd n (.int i) = true := by cases n <;> rfl
@[simp] theorem okd_bl (n : Nat) (i : Bool) : D.okd n (.bl i) = true := by cases n <;> rfl
@[simp] theorem okd_non (n : Nat) : D.okd n .non = true := by cases n <;> rfl
theorem okds_all (n : Nat) : ∀ xs : List D, D.okds n xs = xs.all (D.okd n)
  | [] => by simp [D.okds]
  | x :: xs => by simp only [D.okds, List.all_cons, okds_all n xs]
@[simp] theorem okd_lst (n : Nat) (xs : List D) : D.okd (n + 1) (.lst xs) = xs.all (D.okd n) := by rw [D.okd, okds_all]
@[simp] theorem okd_tup (n : Nat) (xs : List D) : D.okd (n + 1) (.tup xs) = xs.all (D.okd n) := by rw [D.okd, okds_all]
@[simp] theorem opEq_int (i j : Int) : opEq (.int i) (.int j) = some (fB (i == j)) := by unfold opEq; simp [D.eqv]
@[simp] theorem opNe_int (i j : Int) : opNe (.int i) (.int j) = some (fB (!(i == j))) := by unfold opNe; simp [D.eqv]
theorem at_natCast {α : Type} {xs : List α} {i : Nat} (h : i < xs.length) : at' xs (i : Int) = some xs[i] := by
  unfold at' place
  rw [if_pos (by omega), if_pos (by omega)]
  simp [h]
theorem at_nat {α : Type} {xs : List α} {j : Int} (i : Nat) (hj : j = (i : Int)) (h : i < xs.length) : at' xs j = some xs[i] := by rw [hj]; exact at_natCast h
theorem at_last {α : Type} {xs : List α} (h : xs ≠ []) : at' xs (-1) = some (xs.getLast h) := by
  have hl := List.length_pos_iff.mpr h
  unfold at' place
  rw [if_neg (by omega), if_pos (by omega)]
  simp only [Option.bind_some]
  have e : (-1 + (xs.length : Int)).toNat = xs.length - 1 := by omega
  rw [e, List.getLast_eq_getElem]
  simp [hl]
theorem at_map' {α β : Type} (f : α → β) (xs : List α) (i : Int) : at' (xs.map f) i = (at' xs i).map f := by
  unfold at'
  rw [List.length_map]
  cases place xs.length i with
  | none => rfl
  | some j => simp
@[simp] theorem opIdx_lst (xs : List D) (i : Int) : opIdx (.lst xs) (.int i) = (at' xs i).map .frz := rfl
@[simp] theorem opIdx_tup (xs : List D) (i : Int) : opIdx (.tup xs) (.int i) = (at' xs i).map .frz := rfl
@[simp] theorem opIdx_scr (xs : List Int) (i : Int) : opIdx (.scr xs) (.int i) = (at' xs i).map fI := rfl
theorem cut_map {α β : Type} (f : α → β) (xs : List α) (lo hi : Option Int) : cut (xs.map f) lo hi = (cut xs lo hi).map f := by
  unfold cut
  rw [List.length_map, ← List.map_drop, ← List.map_take]
theorem cut_to {α : Type} (xs : List α) (k : Nat) (h : k ≤ xs.length) : cut xs none (some (k : Int)) = xs.take k := by
  unfold cut cutIx
  simp only [List.drop_zero, Nat.sub_zero]
  rw [if_neg (by omega)]
  congr 1
  omega
theorem cut_from {α : Type} (xs : List α) (k : Nat) (h : k ≤ xs.length) : cut xs (some (k : Int)) none = xs.drop k := by
  unfold cut cutIx
  simp only
  rw [if_neg (by omega), Int.toNat_natCast, Nat.min_eq_left h]
  exact List.take_of_length_le (by rw [List.length_drop]; omega)
/-! sizes -/
theorem log2_lt {n a : Nat} (h0 : 0 < a) (h : n < 2 ^ a) : n.log2 < a := by
  by_cases hn : n = 0
  · subst hn; rw [Nat.log2_zero]; exact h0
  · exact (Nat.log2_lt hn).mpr h
theorem mulOk_of {i j : Int} (a b : Nat) (h1 : i.natAbs < 2 ^ a) (h2 : j.natAbs < 2 ^ b) (ha : 0 < a) (hb : 0 < b) (h : a + b ≤ 134217000) : mulOk i j = true := by
  unfold mulOk
  have := log2_lt ha h1
  have := log2_lt hb h2
  rw [decide_eq_true_eq]
  omega
end

/-! lists of numbers -/
def iL (xs : List Int) : D := .lst (xs.map .int)
def oL (xs : List Int) : OD := .lst (xs.map fI)
@[simp] theorem er_oL (xs : List Int) : (oL xs).er = iL xs := by
  unfold oL iL
  rw [er_lst, List.map_map]; rfl
@[simp] theorem closed_oL (xs : List Int) : (oL xs).closed = true := by
  unfold oL
  rw [closed_lst]
  simp
theorem map_frz_int (xs : List Int) : (xs.map D.int).map OD.frz = xs.map fI := by rw [List.map_map]; rfl
@[simp] theorem iL_inj {xs ys : List Int} : iL xs = iL ys ↔ xs = ys := by
  constructor
  · intro h
    unfold iL at h
    injection h with h
    exact (List.map_inj_right fun _ _ e => by injection e).mp h
  · rintro rfl; rfl
@[simp] theorem okd_iL (n : Nat) (xs : List Int) : D.okd (n + 1) (iL xs) = true := by unfold iL; simp
theorem eqvs_ints : ∀ xs ys : List Int, D.eqvs (xs.map .int) (ys.map .int) = (xs == ys)
  | [], [] => rfl
  | [], _ :: _ => rfl
  | _ :: _, [] => rfl
  | x :: xs, y :: ys => by
    simp only [List.map_cons, D.eqvs, D.eqv, eqvs_ints xs ys]
    rfl
theorem eqv_iL (xs ys : List Int) : D.eqv (iL xs) (iL ys) = (xs == ys) := by unfold iL; rw [D.eqv]; exact eqvs_ints xs ys
@[simp] theorem opEq_iL (xs ys : List Int) : opEq (iL xs) (iL ys) = some (fB (xs == ys)) := by unfold opEq; simp [eqv_iL]
@[simp] theorem opNe_iL (xs ys : List Int) : opNe (iL xs) (iL ys) = some (fB (!(xs == ys))) := by unfold opNe; simp [eqv_iL]
@[simp] theorem opNe_iL_nil (xs : List Int) : opNe (iL xs) (.lst []) = some (fB (!(xs == []))) := opNe_iL xs []
@[simp] theorem opEq_iL_nil (xs : List Int) : opEq (iL xs) (.lst []) = some (fB (xs == [])) := opEq_iL xs []
@[simp] theorem pLen_iL (xs : List Int) : pLen [iL xs] = some (fI xs.length) := by unfold iL pLen; simp
@[simp] theorem pList_iL (xs : List Int) : pList [iL xs] = some (oL xs) := by
  show some (OD.lst ((xs.map D.int).map OD.frz)) = _
  rw [map_frz_int]; rfl
theorem opIdx_iL (xs : List Int) (i : Int) : opIdx (iL xs) (.int i) = (at' xs i).map fI := by
  unfold iL
  rw [opIdx_lst, at_map', Option.map_map]; rfl
theorem opIdx_iL_nat {xs : List Int} {j : Int} (i : Nat) (hj : j = (i : Int)) (h : i < xs.length) : opIdx (iL xs) (.int j) = some (fI xs[i]) := by rw [opIdx_iL, at_nat i hj h]; rfl
theorem opIdx_iL_last {xs : List Int} (h : xs ≠ []) : opIdx (iL xs) (.int (-1)) = some (fI (xs.getLast h)) := by rw [opIdx_iL, at_last h]; rfl
theorem opCut_iL (xs : List Int) (lo hi : Option Int) : opCut (iL xs) lo hi = some (oL (cut xs lo hi)) := by
  unfold iL oL
  rw [opCut_lst, cut_map, map_frz_int]
theorem opAdd_iL {xs ys : List Int} (h : xs.length + ys.length ≤ sz) : opAdd (iL xs) (iL ys) = some (oL (xs ++ ys)) := by
  show (if (xs.map D.int).length + (ys.map D.int).length ≤ sz then some (OD.lst ((xs.map D.int).map .frz ++ (ys.map D.int).map .frz)) else none) = _
  rw [if_pos (by simpa using h), map_frz_int, map_frz_int, ← List.map_append]; rfl
theorem opRev_iL (xs : List Int) : opRev (iL xs) = some (oL xs.reverse) := by
  show some (OD.lst ((xs.map D.int).reverse.map .frz)) = _
  rw [← List.map_reverse, map_frz_int]; rfl
@[simp] theorem asL_iL (xs : List Int) : asL (iL xs) = some (xs.map .int) := rfl
@[simp] theorem pAbs_int (i : Int) : pAbs [.int i] = some (fI (i.natAbs : Int)) := by
  unfold pAbs
  split
  · rename_i j h
    injection h with h
    injection h with h
    subst h
    congr 2
    split <;> omega
  · rename_i h; exact (h i rfl).elim
theorem lstAt_oL {g : G} {i : Nat} {xs : List Int} (h : rd g i = some (oL xs)) : lstAt i g = some (xs.map fI) := by unfold lstAt; rw [h]; rfl
/-- a comprehension over numbers -/
theorem comp_ints {own : List Nat} {src : IX} {t : TX} {f : EX} {e : Ev} {i : Nat} {xs : List Int} {h : Int → OD} (hs : src e = some (xs.map .int)) (hl : xs.length ≤ sz) (ht : ∀ x ∈ xs, t ((wipeE e own).set i (some (.int x))) = some true) (hf : ∀ x ∈ xs, f ((wipeE e own).set i (some (.int x))) = some (h x)) :
    eComp own src (gName i) t f e = some (.lst (xs.map h)) := by
  unfold eComp
  rw [hs]
  simp only [Option.bind_some, List.length_map]
  rw [if_pos hl, compGo_map (h := fun d => match d with | .int x => h x | d => .frz d)]
  · rw [List.map_map]; rfl
  · intro d hd
    obtain ⟨x, hx, rfl⟩ := List.mem_map.mp hd
    exact ⟨_, rfl, ht x hx, hf x hx⟩
/-- a comprehension over range(..) -/
theorem comp_rng {own : List Nat} {src : IX} {t : TX} {f : EX} {e : Ev} {i n : Nat} {lo : Int} {h : Nat → OD} (hs : src e = some (rngL lo n)) (hl : n ≤ sz) (ht : ∀ k : Nat, k < n → t ((wipeE e own).set i (some (.int (lo + k)))) = some true) (hf : ∀ k : Nat, k < n → f ((wipeE e own).set i (some (.int (lo + k)))) = some (h k)) :
    eComp own src (gName i) t f e = some (.lst ((List.range n).map h)) := by
  unfold eComp
  rw [hs]
  simp only [Option.bind_some, rngL, List.length_map, List.length_range]
  rw [if_pos hl]
  have key : ∀ ks : List Nat, (∀ k ∈ ks, k < n) → compGo (gName i) t f (wipeE e own) (ks.map fun (k : Nat) => D.int (lo + (k : Int))) = some (ks.map h) := by
    intro ks
    induction ks with
    | nil => intro _; rfl
    | cons k ks ih =>
      intro hk
      have h1 := hk k List.mem_cons_self
      simp only [List.map_cons, compGo, gName_ev, Option.bind_some, ht k h1, if_true, hf k h1, ih fun x hx => hk x (List.mem_cons_of_mem _ hx)]
  rw [key _ fun k hk => List.mem_range.mp hk]
  rfl
theorem EX.d_of {f : EX} {e : Ev} {o : OD} (h : f e = some o) : f.d e = some o.er := by unfold EX.d; rw [h]; rfl
/-- what is taken and holds nothing read-only leaves the names as they are -/
theorem oE_closed {vs : List Nat} {f : EX} {g : G} {o : OD} (h : f (erG g) = some o) (hc : o.closed = true) : oE vs f g = some (o, g) := by unfold oE; rw [h]; simp [hc]
theorem oE_open {vs : List Nat} {f : EX} {g : G} {o : OD} (h : f (erG g) = some o) (hc : o.closed = false) : oE vs f g = some (o, fz vs g) := by unfold oE; rw [h]; simp [hc]
theorem pAll_true : ∀ (n : Nat), pAll [.lst (List.replicate n (.bl true))] = some (fB true) := fun n => by
  have key : ∀ n : Nat, asBls (List.replicate n (.bl true)) = some (List.replicate n true) := by
    intro n
    induction n with
    | zero => rfl
    | succ n ih => rw [List.replicate_succ, asBls, ih]; rfl
  show (asBls _).map _ = _
  rw [key]
  show some (fB ((List.replicate n true).all id)) = _
  rw [show (List.replicate n true).all id = true from List.all_eq_true.mpr fun x hx => by rw [(List.mem_replicate.mp hx).2]; rfl]
end Z
/-! Runs: what a statement comes to from a state. -/
namespace Z
open PySem
inductive Out
  | nx (g : G) | rt (o : OD) | bk (g : G) | ct (g : G)
def Out.ok (P : Post) : Out → Prop
  | .nx g => P.nx g | .rt o => P.rt o | .bk g => P.bk g | .ct g => P.ct g
def Run (s : S) (g : G) (r : Out) : Prop := ∀ P, r.ok P → s P g
/-- s can come to something that is Q -/
def Can (s : S) (g : G) (Q : Out → Prop) : Prop := ∃ r, Q r ∧ Run s g r
/-- falls through -/
def Nx (Q : G → Prop) : Out → Prop
  | .nx g => Q g
  | _ => False
def Rt (Q : OD → Prop) : Out → Prop
  | .rt o => Q o
  | _ => False
/-- what follows on falling through -/
def Then (b : S) (Q : Out → Prop) : Out → Prop
  | .nx g => Can b g Q
  | r => Q r
theorem Can.imp {s : S} {g : G} {Q Q' : Out → Prop} (h : Can s g Q) (k : ∀ r, Q r → Q' r) : Can s g Q' := let ⟨r, a, b⟩ := h; ⟨r, k r a, b⟩
theorem Can.nx {s : S} {g : G} {R : G → Prop} {Q : Out → Prop} (h : Can s g (Nx R)) (k : ∀ g', R g' → Q (.nx g')) : Can s g Q := h.imp fun r hr => by
  cases r with
  | nx g' => exact k g' hr
  | _ => exact hr.elim
section
variable {a b s : S} {g : G} {Q : Out → Prop}
theorem can_seq (h : Can a g (Then b Q)) : Can (sSeq a b) g Q := by
  obtain ⟨r, h1, h2⟩ := h
  cases r with
  | nx g1 =>
    obtain ⟨r', h3, h4⟩ := h1
    exact ⟨r', h3, fun P hP => h2 { P with nx := b P } (h4 P hP)⟩
  | rt o => exact ⟨.rt o, h1, fun P hP => h2 { P with nx := b P } hP⟩
  | bk g1 => exact ⟨.bk g1, h1, fun P hP => h2 { P with nx := b P } hP⟩
  | ct g1 => exact ⟨.ct g1, h1, fun P hP => h2 { P with nx := b P } hP⟩
/-- the first part falls through -/
theorem can_then {R : G → Prop} (h : Can a g (Nx R)) (k : ∀ g', R g' → Can b g' Q) : Can (sSeq a b) g Q := can_seq (h.imp fun r hr => by
  cases r with
  | nx g' => exact k g' hr
  | _ => exact hr.elim)
theorem can_skip (h : Q (.nx g)) : Can sSkip g Q := ⟨_, h, fun P hP => hP⟩
theorem can_asg {i : Nat} {o : OX} {r : OD} {g' : G} (ho : o g = some (r, g')) (h : Q (.nx (g'.set i (some r)))) : Can (sAsg i o) g Q := ⟨_, h, fun P hP => ⟨r, g', ho, hP⟩⟩
theorem can_unp {is : List Nat} {o : OX} {r : OD} {g' : G} {os : List OD} (ho : o g = some (r, g')) (hu : untup is.length r = some os) (h : Q (.nx (putAll is os g'))) : Can (sUnp is o) g Q := ⟨_, h, fun P hP => ⟨r, g', os, ho, hu, hP⟩⟩
theorem can_par {is : List Nat} {os : List OX} {rs : List OD} {g' : G} (ho : oList os g = some (rs, g')) (hl : rs.length = is.length) (h : Q (.nx (putAll is rs g'))) : Can (sPar is os) g Q := ⟨_, h, fun P hP => ⟨rs, g', ho, hl, hP⟩⟩
theorem can_drop {f : EX} {o : OD} (ho : f (erG g) = some o) (h : Q (.nx g)) : Can (sDrop f) g Q := ⟨_, h, fun P hP => ⟨o, ho, hP⟩⟩
theorem can_ret {o : OX} {r : OD} {g' : G} (ho : o g = some (r, g')) (h : Q (.rt r)) : Can (sRet o) g Q := ⟨_, h, fun P hP => ⟨r, g', ho, hP⟩⟩
theorem can_brk (h : Q (.bk g)) : Can sBrk g Q := ⟨_, h, fun P hP => hP⟩
theorem can_cnt (h : Q (.ct g)) : Can sCnt g Q := ⟨_, h, fun P hP => hP⟩
theorem can_if {c : TX} (t : Bool) (hc : c (erG g) = some t) (h1 : t = true → Can a g Q) (h2 : t = false → Can b g Q) : Can (sIf c a b) g Q := by
  cases t with
  | true => obtain ⟨r, x, y⟩ := h1 rfl; exact ⟨r, x, fun P hP => ⟨true, hc, fun _ => y P hP, fun e => nomatch e⟩⟩
  | false => obtain ⟨r, x, y⟩ := h2 rfl; exact ⟨r, x, fun P hP => ⟨false, hc, fun e => (nomatch e), fun _ => y P hP⟩⟩
theorem can_app {i : Nat} {o : OX} {r : OD} {g' : G} {xs ys : List OD} (ho : o g = some (r, g')) (h1 : lstAt i g = some ys) (h2 : lstAt i g' = some xs) (hl : xs.length < sz) (h : Q (.nx (g'.set i (some (.lst (xs ++ [r])))))) : Can (sApp i o) g Q :=
  ⟨_, h, fun P hP => ⟨r, g', xs, ys, ho, h1, h2, hl, hP⟩⟩
theorem can_pop {i : Nat} {xs : List OD} (h1 : lstAt i g = some xs) (h2 : xs ≠ []) (h : Q (.nx (g.set i (some (.lst xs.dropLast))))) : Can (sPop i) g Q := ⟨_, h, fun P hP => ⟨xs, h1, h2, hP⟩⟩
theorem can_setIx {i : Nat} {k : EX} {o : OX} {r : OD} {g' : G} {j : Int} {n : Nat} {xs : List OD} (ho : o g = some (r, g')) (hk : k.d (erG g') = some (.int j)) (h1 : lstAt i g' = some xs) (h2 : place xs.length j = some n) (h : Q (.nx (g'.set i (some (.lst (xs.set n r)))))) : Can (sSet i k o) g Q :=
  ⟨_, h, fun P hP => ⟨r, g', j, n, xs, ho, hk, h1, h2, hP⟩⟩
theorem can_augIx {i : Nat} {k : EX} {op : D → D → Option OD} {f : EX} {j : Int} {n : Nat} {xs : List OD} {x y r : Int} (hk : k.d (erG g) = some (.int j)) (h1 : lstAt i g = some xs) (h2 : place xs.length j = some n) (h3 : xs[n]? = some (.frz (.int x))) (hf : f.d (erG g) = some (.int y)) (ho : op (.int x) (.int y) = some (fI r))
    (h : Q (.nx (g.set i (some (.lst (xs.set n (fI r))))))) : Can (sAugSet i k op f) g Q := ⟨_, h, fun P hP => ⟨j, n, xs, x, y, r, hk, h1, h2, h3, hf, ho, hP⟩⟩
theorem can_aug {i : Nat} {op : D → D → Option OD} {f : EX} {x y r : Int} (h1 : rd (erG g) i = some (.int x)) (hf : f.d (erG g) = some (.int y)) (ho : op (.int x) (.int y) = some (fI r)) (h : Q (.nx (g.set i (some (fI r))))) : Can (sAug i op f) g Q := ⟨_, h, fun P hP => ⟨x, y, r, h1, hf, ho, hP⟩⟩

/-! ### loops -/
/-- how a turn of a loop may end -/
def Turn (I : G → Prop) (Q : Out → Prop) : Out → Prop
  | .nx g => I g
  | .ct g => I g
  | .bk g => Q (.nx g)
  | .rt o => Q (.rt o)
end
/-- a chain of turns -/
inductive Lp (c : TX) (b : S) : Nat → G → Out → Prop
  | stop {g : G} : c (erG g) = some false → Lp c b 0 g (.nx g)
  | next {g g1 : G} {m : Nat} {r : Out} : c (erG g) = some true → (Run b g (.nx g1) ∨ Run b g (.ct g1)) → Lp c b m g1 r → Lp c b (m + 1) g r
  | brk {g g1 : G} : c (erG g) = some true → Run b g (.bk g1) → Lp c b 0 g (.nx g1)
  | ret {g : G} {o : OD} : c (erG g) = some true → Run b g (.rt o) → Lp c b 0 g (.rt o)
theorem Lp.run {c : TX} {b : S} {m : Nat} {g : G} {r : Out} (h : Lp c b m g r) : Run (sWhile c b) g r := fun P hP => by
  refine ⟨fun k x => Lp c b k x r, ⟨m, h⟩, fun k x hx => ?_⟩
  cases hx with
  | stop hc => exact ⟨false, hc, fun e => (nomatch e), fun _ => hP⟩
  | next hc hb ht =>
    refine ⟨true, hc, fun _ => ?_, fun e => nomatch e⟩
    rcases hb with hb | hb
    · exact hb _ ⟨_, Nat.lt_succ_self _, ht⟩
    · exact hb _ ⟨_, Nat.lt_succ_self _, ht⟩
  | brk hc hb => exact ⟨true, hc, fun _ => hb _ hP, fun e => nomatch e⟩
  | ret hc hb => exact ⟨true, hc, fun _ => hb _ hP, fun e => nomatch e⟩
theorem can_while {c : TX} {b : S} {Q : Out → Prop} (I : Nat → G → Prop) {m : Nat} {g : G} (h0 : I m g) (hs : ∀ m g, I m g → ∃ t, c (erG g) = some t ∧ (t = true → Can b g (Turn (fun g' => ∃ m', m' < m ∧ I m' g') Q)) ∧ (t = false → Q (.nx g))) : Can (sWhile c b) g Q := by
  have key : ∀ n m g, m ≤ n → I m g → ∃ k r, Q r ∧ Lp c b k g r := by
    intro n
    induction n with
    | zero =>
      intro m g hm hI
      obtain ⟨t, h1, h2, h3⟩ := hs m g hI
      cases t with
      | false => exact ⟨0, _, h3 rfl, .stop h1⟩
      | true =>
        obtain ⟨r, x, y⟩ := h2 rfl
        cases r with
        | nx g1 => obtain ⟨m', l, _⟩ := x; omega
        | ct g1 => obtain ⟨m', l, _⟩ := x; omega
        | bk g1 => exact ⟨0, _, x, .brk h1 y⟩
        | rt o => exact ⟨0, _, x, .ret h1 y⟩
    | succ n ih =>
      intro m g hm hI
      obtain ⟨t, h1, h2, h3⟩ := hs m g hI
      cases t with
      | false => exact ⟨0, _, h3 rfl, .stop h1⟩
      | true =>
        obtain ⟨r, x, y⟩ := h2 rfl
        cases r with
        | nx g1 =>
          obtain ⟨m', l, i⟩ := x
          obtain ⟨k, r, q, z⟩ := ih m' g1 (by omega) i
          exact ⟨_, r, q, .next h1 (.inl y) z⟩
        | ct g1 =>
          obtain ⟨m', l, i⟩ := x
          obtain ⟨k, r, q, z⟩ := ih m' g1 (by omega) i
          exact ⟨_, r, q, .next h1 (.inr y) z⟩
        | bk g1 => exact ⟨0, _, x, .brk h1 y⟩
        | rt o => exact ⟨0, _, x, .ret h1 y⟩
  obtain ⟨k, r, q, l⟩ := key m m g (Nat.le_refl _) h0
  exact ⟨r, q, l.run⟩
/-- a chain of turns from the k-th on; st: how the k-th item is taken -/
inductive Fr (n : Nat) (st : Nat → G → Option G) (b : S) : Nat → G → Out → Prop
  | stop {g : G} : Fr n st b n g (.nx g)
  | next {k : Nat} {g g' g1 : G} {r : Out} : k < n → st k g = some g' → (Run b g' (.nx g1) ∨ Run b g' (.ct g1)) → Fr n st b (k + 1) g1 r → Fr n st b k g r
  | brk {k : Nat} {g g' g1 : G} : k < n → st k g = some g' → Run b g' (.bk g1) → Fr n st b k g (.nx g1)
  | ret {k : Nat} {g g' : G} {o : OD} : k < n → st k g = some g' → Run b g' (.rt o) → Fr n st b k g (.rt o)
theorem fr_of {n : Nat} {st : Nat → G → Option G} {b : S} {Q : Out → Prop} (I : Nat → G → Prop) {g : G} (h0 : I 0 g) (hs : ∀ k g, k < n → I k g → ∃ g', st k g = some g' ∧ Can b g' (Turn (I (k + 1)) Q)) (he : ∀ g, I n g → Q (.nx g)) : ∃ r, Q r ∧ Fr n st b 0 g r := by
  have key : ∀ j k g, k + j = n → I k g → ∃ r, Q r ∧ Fr n st b k g r := by
    intro j
    induction j with
    | zero =>
      intro k g hk hI
      obtain rfl : k = n := hk
      exact ⟨_, he g hI, .stop⟩
    | succ j ih =>
      intro k g hk hI
      obtain ⟨g', h1, r, x, y⟩ := hs k g (by omega) hI
      cases r with
      | nx g1 => obtain ⟨r, q, z⟩ := ih (k + 1) g1 (by omega) x; exact ⟨r, q, .next (by omega) h1 (.inl y) z⟩
      | ct g1 => obtain ⟨r, q, z⟩ := ih (k + 1) g1 (by omega) x; exact ⟨r, q, .next (by omega) h1 (.inr y) z⟩
      | bk g1 => exact ⟨_, x, .brk (by omega) h1 y⟩
      | rt o => exact ⟨_, x, .ret (by omega) h1 y⟩
  exact key n 0 g (by omega) h0
theorem can_forR {src : RX} {i : Nat} {b : S} {g : G} {Q : Out → Prop} {lo : Int} {n : Nat} (he : src (erG g) = some (lo, n)) (I : Nat → G → Prop) (h0 : I 0 g) (hs : ∀ (k : Nat) g, k < n → I k g → Can b (g.set i (some (fI (lo + (k : Int))))) (Turn (I (k + 1)) Q)) (hq : ∀ g, I n g → Q (.nx g)) : Can (sForR src i b) g Q := by
  obtain ⟨r, q, f⟩ := fr_of (n := n) (st := fun k g => some (g.set i (some (fI (lo + (k : Int)))))) I h0 (fun k g hk hI => ⟨_, rfl, hs k g hk hI⟩) hq
  refine ⟨r, q, fun P hP => ⟨lo, n, he, fun k x => Fr n (fun k g => some (g.set i (some (fI (lo + (k : Int)))))) b k x r, f, fun k x hk hx => ?_, fun x hx => ?_⟩⟩
  · cases hx with
    | stop => omega
    | next _ e hb ht =>
      cases e
      rcases hb with hb | hb
      · exact hb _ ht
      · exact hb _ ht
    | brk _ e hb => cases e; exact hb _ hP
    | ret _ e hb => cases e; exact hb _ hP
  · cases hx with
    | stop => exact hP
    | next h => omega
    | brk h => omega
    | ret h => omega
theorem can_for0 {src : RX} {i : Nat} {b : S} {g : G} {Q : Out → Prop} {n : Nat} (he : src (erG g) = some (0, n)) (I : Nat → G → Prop) (h0 : I 0 g) (hs : ∀ (k : Nat) g, k < n → I k g → Can b (g.set i (some (fI (k : Int)))) (Turn (I (k + 1)) Q)) (hq : ∀ g, I n g → Q (.nx g)) : Can (sForR src i b) g Q :=
  can_forR he I h0 (fun k g hk hI => by rw [Int.zero_add]; exact hs k g hk hI) hq
theorem can_for {vs : List Nat} {src : IX} {hd : SG} {b : S} {g : G} {Q : Out → Prop} {ds : List D} (he : src (erG g) = some ds) (I : Nat → G → Prop) (h0 : I 0 (fz vs g)) (hs : ∀ (k : Nat) d g, ds[k]? = some d → I k g → ∃ g', hd d g = some g' ∧ Can b g' (Turn (I (k + 1)) Q)) (hq : ∀ g, I ds.length g → Q (.nx g)) : Can (sFor vs src hd b) g Q := by
  obtain ⟨r, q, f⟩ := fr_of (n := ds.length) (st := fun k g => (ds[k]?).bind fun d => hd d g) I h0 (fun k g hk hI => by
    obtain ⟨g', h1, h2⟩ := hs k ds[k] g (List.getElem?_eq_getElem hk) hI
    exact ⟨g', by rw [List.getElem?_eq_getElem hk]; exact h1, h2⟩) hq
  refine ⟨r, q, fun P hP => ⟨ds, he, fun k x => Fr ds.length (fun k g => (ds[k]?).bind fun d => hd d g) b k x r, f, fun k d x hk hx => ?_, fun x hx => ?_⟩⟩
  · have hl : k < ds.length := (List.getElem?_eq_some_iff.mp hk).1
    cases hx with
    | stop => omega
    | next _ e hb ht =>
      rw [hk] at e
      refine ⟨_, e, ?_⟩
      rcases hb with hb | hb
      · exact hb _ ht
      · exact hb _ ht
    | brk _ e hb => rw [hk] at e; exact ⟨_, e, hb _ hP⟩
    | ret _ e hb => rw [hk] at e; exact ⟨_, e, hb _ hP⟩
  · cases hx with
    | stop => exact hP
    | next h => omega
    | brk h => omega
    | ret h => omega

/-! ### what a def is worth -/
/-- how a def ends -/
def Fin (R : OD → Prop) : Out → Prop
  | .rt o => R o
  | .nx _ => R (.frz .non)
  | _ => False
open Classical in
noncomputable def Val (n : Nat) (w : S) (R : List D → OD → Prop) : Fn := fun ds => if h : ∃ o, R ds o ∧ w { nx := fun _ => o = .frz .non, rt := fun r => r = o } (start n ds) then some h.choose else none
theorem val_does {n : Nat} {w : S} {R : List D → OD → Prop} : Does n w (Val n w R) := by
  intro ds o ho
  unfold Val at ho
  split at ho
  · rename_i h
    have h2 := h.choose_spec.2
    cases ho
    exact h2
  · cases ho
theorem val_ex {n : Nat} {w : S} {R : List D → OD → Prop} {ds : List D} (h : Can w (start n ds) (Fin (R ds))) : ∃ o, Val n w R ds = some o ∧ R ds o := by
  obtain ⟨r, h1, h2⟩ := h
  have k : ∃ o, R ds o ∧ w { nx := fun _ => o = .frz .non, rt := fun r => r = o } (start n ds) := by
    cases r with
    | rt o => exact ⟨o, h1, h2 { nx := fun _ => o = .frz .non, rt := fun r => r = o } rfl⟩
    | nx g => exact ⟨.frz .non, h1, h2 { nx := fun _ => OD.frz .non = .frz .non, rt := fun r => r = .frz .non } rfl⟩
    | bk g => exact h1.elim
    | ct g => exact h1.elim
  refine ⟨k.choose, ?_, k.choose_spec.1⟩
  unfold Val
  rw [dif_pos k]
end Z
/-! The end, with what a division of huge numbers asks of the heap. -/
namespace Z
open PySem L2 PySem.Spec PyProof.Rows
section
variable {P : Program} {w : World} {K : PySem.W.Frag} {mg mb : Str → Option Value} {h : Heap} {a : Addr} {vs : List Value}
/-- the only thing that may be tracked at the start -/
def scrH (K : PySem.W.Frag) (a : Addr) (vs : List Value) (ns : List Int) : Hp := fun b =>
  if b = a ∧ K.lookup a = none then some (.frz ⟨.type "list", none, .seq vs.toArray, #[]⟩ (.lst (ns.map V.int))) else none
theorem scrH_some {ns : List Int} {b : Addr} (q : scrH K a vs ns b ≠ none) : b = a ∧ K.lookup a = none := by
  unfold scrH at q
  by_cases c : b = a ∧ K.lookup a = none
  · exact c
  · rw [if_neg c] at q; exact (q rfl).elim
/-- what is no list of the kind stays in view -/
theorem hid_keep {ns : List Int} (ha : h.get? a = some ⟨.type "list", none, .seq vs.toArray, #[]⟩) {b : Addr} {o : Obj} (e : h.get? b = some o) (d : ∀ xs n, o.data = .seq xs n → o.cls ≠ .type "list") : (hidT h (scrH K a vs ns)).get? b = some o := by
  refine hidT_get e (Classical.byContradiction fun q => ?_)
  obtain ⟨rfl, -⟩ := scrH_some q
  rw [ha] at e
  cases e
  exact d _ _ rfl rfl
theorem hid_ns {ns : List Int} (ha : h.get? a = some ⟨.type "list", none, .seq vs.toArray, #[]⟩) {b : Addr} {m : Str → Option Value} (N : h.Ns b m) : (hidT h (scrH K a vs ns)).Ns b m := by
  obtain ⟨o, es, ep, e, d, r⟩ := N
  exact ⟨o, es, ep, hid_keep ha e (fun xs n q => by rw [d] at q; cases q), d, r⟩
theorem hid_seer {ns : List Int} (ha : h.get? a = some ⟨.type "list", none, .seq vs.toArray, #[]⟩) (N : h.NoSeer) : (hidT h (scrH K a vs ns)).NoSeer where
  statics := by obtain ⟨m, x, y⟩ := N.statics; exact ⟨m, hid_ns ha x, y⟩
  mods := by obtain ⟨m, x, y⟩ := N.mods; exact ⟨m, hid_ns ha x, y⟩
  imp := by obtain ⟨m, x, y⟩ := N.imp; exact ⟨m, hid_ns ha x, y⟩
  main := by
    obtain ⟨m, bm, ob, x, y, z, c, d⟩ := N.main
    exact ⟨m, bm, ob, hid_ns ha x, y, hid_keep ha z (fun _ _ _ => by rw [c]; decide), c, d⟩
theorem hid_in {ns : List Int} (KX : K.In h) : K.In (hidT h (scrH K a vs ns)) := fun b o e => hidT_get (KX b o e) (Classical.byContradiction fun q => by
  obtain ⟨rfl, q⟩ := scrH_some q
  rw [e] at q; cases q)
theorem scr_hok {ns : List Int} (ha : h.get? a = some ⟨.type "list", none, .seq vs.toArray, #[]⟩) (hi : IntsAre vs ns) (hl : ns.length ≤ sizeLine) : HOk P w (scrH K a vs ns) h := fun b o e => by
  obtain ⟨rfl, n⟩ := scrH_some (K := K) (a := a) (vs := vs) (ns := ns) (b := b) (by rw [e]; simp)
  unfold scrH at e
  rw [if_pos ⟨rfl, n⟩] at e
  cases e
  exact ⟨ha, by rw [List.length_map]; exact hl, vs, _, vals_ints hi, ha⟩
theorem scr_seq {ns : List Int} (KX : K.In h) (ha : h.get? a = some ⟨.type "list", none, .seq vs.toArray, #[]⟩) (hi : IntsAre vs ns) (hl : ns.length ≤ sizeLine) : SqL K (scrH K a vs ns) a (ns.map V.int) := by
  cases q : K.lookup a with
  | none => exact .inl (.inr ⟨_, by unfold scrH; rw [if_pos ⟨rfl, q⟩]⟩)
  | some o =>
    have e := KX a o q
    rw [ha] at e
    cases e
    exact .inr ⟨_, vs.toArray, _, q, rfl, rfl, rfl, by rw [List.size_toArray, hi.length]; exact hl, vals_ints hi⟩
theorem scr_only {ns : List Int} : Only (scrH K a vs ns) := fun b => by
  by_cases c : scrH K a vs ns b = none
  · exact .inl c
  · have := scrH_some c
    exact .inr ⟨_, _, by unfold scrH; rw [if_pos this]⟩
/-- the law's promise told at a base that holds no seer -/
theorem call_seen {CX : CXT} {k : Nat} {fa : Addr} {fd : FuncData} {x : Str} {sp : Sp} {s : Shared} {ns : List Int} (KX : K.In s.heap) (hns : s.heap.Ns mainGlobals mg) (hb : s.heap.Ns builtinsNs mb) (hbb : ∀ x : Str, x ≠ "__name__" → mb x = bootBuiltins x) (hlim : s.heap.NoLimit) (hseer : s.heap.NoSeer) (hg : s.gens = #[]) (ha : s.heap.get? a = some ⟨.type "list", none, .seq vs.toArray, #[]⟩) (hi : IntsAre vs ns) (hl : ns.length ≤ sizeLine) (hr : Room k callerA) (F : ∀ base : Heap, base.NoSeer → K.In base → base.Ns mainGlobals mg → FnOk P w K mg base CX k fa fd [x] sp) (hbind : ∀ (s : Shared) (u : Value), BindsTo s fd ⟨[u], []⟩ [(x, u)]) (hsp : ∀ H : Hp, Only H → SqL K H a (ns.map V.int) → sp [.ref a] H (fun v _ => v = .bl true) fun _ _ _ => False) (hCX : ∀ H e s', CX [] H s (fun _ _ _ => False) e s' → False) : codeAny (model P w) callerA (.call (.ref fa) ⟨[.ref a], []⟩) (fun r s' => r = .ok (.ret (.bool true)) ∧ OldK s.heap s'.heap ∧ s'.os = s.os ∧ AllBare s'.gens) s := by
  let H := scrH K a vs ns
  have M : Mod K mg (hidT s.heap H) := by
    refine ⟨hid_in KX, hid_ns ha hns, ⟨mb, hid_ns ha hb, hbb⟩, ?_⟩
    obtain ⟨m, x, y⟩ := hlim
    exact ⟨m, hid_ns ha x, y⟩
  have E : Env0 P w K mg (hidT s.heap H) callerA [] s H :=
    { frames := rfl, mod := M, bs := fun b o e => of_hidT e, bsz := Nat.le_of_eq (hidT_size _ _), funs := trivial, frf := fun b m => absurd m (by simp [frs]), hok := scr_hok ha hi hl, bare := .of_eq hg }
  have R := (F _ (hid_seer ha hseer) M.kin M.glob).run callerA [] s H ⟨[.ref a], []⟩ [.ref a] [.ref a] (fun v _ => v = .bl true) (fun _ _ _ => False) hr E (hbind s (.ref a)) (.cons rfl .nil) (hsp H scr_only (scr_seq KX ha hi hl))
  refine codeAny_mono R fun r s' q => ?_
  match r, q with
  | .error e, q => exact (hCX H e s' q).elim
  | .ok (.ret u), q =>
    obtain ⟨v, H', os, bare, un, hok', rv, q⟩ := q
    replace q : v = .bl true := q
    subst q
    obtain rfl : u = Value.bool true := rv
    refine ⟨rfl, OldK.of_keep fun b o e => ?_, os, bare⟩
    by_cases c : H b = none
    · exact un.keep b o e c (fun z => absurd (show b ∈ ([] : List Addr) from z) (by simp)) (by simp)
    · obtain ⟨rfl, n⟩ := scrH_some c
      have hb2 : H b = some (.frz ⟨.type "list", none, .seq vs.toArray, #[]⟩ (.lst (ns.map V.int))) := if_pos ⟨rfl, n⟩
      obtain ⟨e2, -⟩ := hok' b _ (un.frzs b _ _ hb2)
      rw [ha] at e
      cases e
      exact e2
theorem walk_seen {l : PySem.W.OpenLaw} {n k : Nat} {q : Program} {loose : List Str} {XP : (Str → Option Value) → Heap → Prop} {YP : World → Heap → Prop} {d : DefRec} {K : Params → PySem.W.Frag} {CX : World → CXT} {sp : World → Sp} {x : Str} (hn : l.most = some n) (hn2 : n ≤ sizeLine) (hdf : d.params.defaults = []) (hr : Room k callerA) (him : importsNone q = true) (hY : ∀ (w : World) (h : Heap), YP w h → (K w.params).In h) (F : ∀ (w : World) (mg : Str → Option Value) (fa : Addr) (h : Heap), (K w.params).In h → h.Ns mainGlobals mg → mg d.name = some (.ref fa) → ∃ fd : FuncData, (∀ (s : Shared) (u : Value), BindsTo s fd ⟨[u], []⟩ [(x, u)]) ∧ ∀ base : Heap, base.NoSeer → (K w.params).In base → base.Ns mainGlobals mg → FnOk l.prog w (K w.params) mg base (CX w) k fa fd [x] (sp w)) (hsp : ∀ (w : World) (H : Hp) (a : Addr) (ns : List Int), ns.length ≤ n → (∀ z ∈ ns, Builtin.Int.intBits z ≤ 1048576) → Only H → SqL (K w.params) H a (ns.map V.int) → sp w [.ref a] H (fun v _ => v = .bl true) fun _ _ _ => False) (hCX : ∀ (w : World) (H : Hp) (s : Shared) (e : Value) (s' : Shared), CX w [] H s (fun _ _ _ => False) e s' → False) : PySem.W.WalkO q loose XP YP l.row.toRowW d [] (fun f vs => PySem.call f vs) := by
  refine Att.attach_callB hn hdf ?_
  intro w s₀ s mg mb fa o pm cd doc a vs ns G Y _ _ _ hmg hobj hints hlen hbits hg
  obtain ⟨fd, hb, hF⟩ := F w mg fa _ (hY w _ Y) G.T.g hmg
  exact call_seen (hY w _ Y) G.T.g G.T.b G.T.builtins G.T.nolimit (G.T.seer him) hg hobj hints (Nat.le_trans hlen hn2) hr hF hb (fun H hO hS => hsp w H a ns hlen hbits hO hS) fun H e s' => hCX w H s e s'
end
end Z
/-! the defs' work at the data level, printed by gen.py -/
namespace Law
open Z
def w__law_cell_at : S :=
  (sSeq (sIf (tV (eOp opLt (eVar 1) (eCall pLen [(eVar 0)]))) (sRet (oE [0, 1] (eOp opIdx (eVar 0) (eVar 1)))) sSkip) (sRet (oE [] (eC (.int 0)))))
def w__law_big (v__law_cell_at : Fn) : S :=
  (sSeq (sAsg 2 (oE [0, 1] (eCall v__law_cell_at [(eVar 0), (eVar 1)]))) (sSeq (sIf (tV (eOp opGe (eVar 2) (eOp opPow (eC (.int 10)) (eC (.int 18))))) (sRet (oMv 2)) sSkip) (sSeq (sAsg 3 (oE [] (eTup [(eC (.int 99989)), (eC (.int 99971)), (eC (.int 99961)), (eC (.int 99929)), (eC (.int 99923)), (eC (.int 99907)), (eC (.int 99901)), (eC (.int 99881)), (eC (.int 99877))]))) (sSeq (sAsg 4 (oE [] (eC (.int 0)))) (sSeq (sForR (rRng1 (eC (.int 64))) 5 (sSeq (sAsg 6 (oE [0, 1, 5] (eOp opAdd (eOp opAdd (eOp opMod (eCall v__law_cell_at [(eVar 0), (eOp opAdd (eVar 1) (eOp opMod (eVar 5) (eC (.int 9))))]) (eOp opPow (eC (.int 10)) (eC (.int 18)))) (eOp opMul (eC (.int 7)) (eVar 5))) (eC (.int 1))))) (sAsg 4 (oE [3, 4, 5, 6] (eOp opAdd (eOp opMul (eVar 4) (eC (.int 8191))) (eOp opMod (eOp opMul (eOp opMod (eOp opAdd (eOp opMul (eVar 6) (eVar 6)) (eOp opMul (eC (.int 31)) (eVar 5))) (eOp opIdx (eVar 3) (eOp opMod (eVar 5) (eC (.int 9))))) (eOp opAdd (eVar 5) (eC (.int 3)))) (eC (.int 8191)))))))) (sRet (oMv 4)))))))
def w__law_number : S :=
  (sSeq (sAsg 2 (oE [0] (eOp opMod (eVar 0) (eC (.int 4))))) (sSeq (sAsg 0 (oE [0] (eOp opFdiv (eVar 0) (eC (.int 4))))) (sSeq (sIf (tV (eOp opEq (eVar 2) (eC (.int 0)))) (sSeq (sAsg 3 (oE [1] (eIf (tV (eOp opGt (eVar 1) (eC (.int 14)))) (eOp opPow (eC (.int 10)) (eC (.int 30))) (eOp opPow (eC (.int 10)) (eC (.int 14)))))) (sRet (oE [0, 3] (eTup [(eOp opAdd (eOp opSub (eOp opMod (eVar 0) (eOp opSub (eOp opMul (eC (.int 2)) (eVar 3)) (eC (.int 1)))) (eVar 3)) (eC (.int 1))), (eOp opFdiv (eVar 0) (eOp opSub (eOp opMul (eC (.int 2)) (eVar 3)) (eC (.int 1))))])))) sSkip) (sRet (oE [0] (eTup [(eOp opSub (eOp opMod (eVar 0) (eC (.int 9))) (eC (.int 4))), (eOp opFdiv (eVar 0) (eC (.int 9)))]))))))
def w__law_poly (v__law_number : Fn) : S :=
  (sSeq (sAsg 3 (oE [0, 1] (eOp opAdd (eC (.int 1)) (eOp opMod (eVar 0) (eVar 1))))) (sSeq (sAsg 0 (oE [0, 1] (eOp opFdiv (eVar 0) (eVar 1)))) (sSeq (sAsg 4 (oE [] (eLst []))) (sSeq (sForR (rRng1 (eVar 3)) 5 (sSeq (sUnp [6, 0] (oE [0, 2] (eCall v__law_number [(eVar 0), (eVar 2)]))) (sApp 4 (oE [6] (eVar 6))))) (sSeq (sIf (tV (eOp opEq (eOp opIdx (eVar 4) (eUn opNeg (eC (.int 1)))) (eC (.int 0)))) (sSet 4 (eUn opNeg (eC (.int 1))) (oE [0] (eOp opSub (eC (.int 1)) (eOp opMul (eC (.int 2)) (eOp opMod (eVar 0) (eC (.int 2))))))) sSkip) (sRet (oMv 4)))))))
def w__law_times : S :=
  (sSeq (sAsg 2 (oE [0, 1, 5] (eComp [5] (Z.iRng1 (eOp opSub (eOp opAdd (eCall pLen [(eVar 0)]) (eCall pLen [(eVar 1)])) (eC (.int 1)))) (Z.gName 5) Z.tYes (eC (.int 0))))) (sSeq (sForR (rRng1 (eCall pLen [(eVar 0)])) 3 (sForR (rRng1 (eCall pLen [(eVar 1)])) 4 (sAugSet 2 (eOp opAdd (eVar 3) (eVar 4)) opAdd (eOp opMul (eOp opIdx (eVar 0) (eVar 3)) (eOp opIdx (eVar 1) (eVar 4)))))) (sRet (oMv 2))))
def w__law_pair (v__law_big : Fn) (v__law_poly : Fn) (v__law_times : Fn) : S :=
  (sSeq (sAsg 1 (oE [0] (eCall v__law_big [(eVar 0), (eC (.int 3))]))) (sSeq (sIf (tV (eOp opEq (eOp opMod (eVar 1) (eC (.int 4))) (eC (.int 0)))) (sRet (oE [0] (eTup [(eCall v__law_poly [(eCall v__law_big [(eVar 0), (eC (.int 0))]), (eC (.int 13)), (eC (.int 30))]), (eCall v__law_poly [(eCall v__law_big [(eVar 0), (eC (.int 1))]), (eC (.int 13)), (eC (.int 30))])]))) sSkip) (sSeq (sAsg 2 (oE [0] (eCall v__law_poly [(eCall v__law_big [(eVar 0), (eC (.int 2))]), (eC (.int 5)), (eC (.int 14))]))) (sSeq (sAsg 3 (oE [0, 2] (eCall v__law_times [(eVar 2), (eCall v__law_poly [(eCall v__law_big [(eVar 0), (eC (.int 0))]), (eC (.int 9)), (eC (.int 14))])]))) (sSeq (sAsg 4 (oE [0, 2] (eCall v__law_times [(eVar 2), (eCall v__law_poly [(eCall v__law_big [(eVar 0), (eC (.int 1))]), (eC (.int 9)), (eC (.int 14))])]))) (sSeq (sIf (tV (eOp opEq (eOp opMod (eOp opFdiv (eVar 1) (eC (.int 4))) (eC (.int 8))) (eC (.int 0)))) (sAsg 4 (oE [1, 3, 5] (eComp [5] (Z.iLst (eVar 3)) (Z.gName 5) Z.tYes (eOp opMul (eVar 5) (eOp opAdd (eUn opNeg (eC (.int 3))) (eOp opMul (eC (.int 2)) (eOp opMod (eOp opFdiv (eVar 1) (eC (.int 32))) (eC (.int 4))))))))) sSkip) (sRet (oTup [(oMv 3), (oMv 4)]))))))))
def w__law_freed : S :=
  (sSeq (sAsg 1 (oE [] (eC (.int 0)))) (sSeq (sFor [0] (Z.iLst (eVar 0)) (hName 2) (sSeq (sAsg 3 (oE [2] (eCall pAbs [(eVar 2)]))) (sWhile (tV (eOp opGt (eVar 3) (eC (.int 0)))) (sUnp [1, 3] (oE [1, 3] (eTup [(eVar 3), (eOp opMod (eVar 1) (eVar 3))])))))) (sSeq (sIf (tV (eOp opLt (eOp opIdx (eVar 0) (eUn opNeg (eC (.int 1)))) (eC (.int 0)))) (sAsg 1 (oE [1] (eUn opNeg (eVar 1)))) sSkip) (sRet (oE [0, 1, 2] (eComp [2] (Z.iLst (eVar 0)) (Z.gName 2) Z.tYes (eOp opFdiv (eVar 2) (eVar 1))))))))
def w__law_trim : S :=
  (sSeq (sAsg 0 (oE [0] (eCall pList [(eVar 0)]))) (sSeq (sWhile (Z.tAnd (tV (eOp opNe (eVar 0) (eLst []))) (tV (eOp opEq (eOp opIdx (eVar 0) (eUn opNeg (eC (.int 1)))) (eC (.int 0))))) (sPop 0)) (sRet (oMv 0))))
def w__law_rest (v__law_trim : Fn) : S :=
  (sSeq (sAsg 2 (oE [0] (eCall pList [(eVar 0)]))) (sSeq (sWhile (tV (eOp opGe (eCall pLen [(eVar 2)]) (eCall pLen [(eVar 1)]))) (sSeq (sAsg 3 (oE [2] (eOp opIdx (eVar 2) (eUn opNeg (eC (.int 1)))))) (sSeq (sAsg 4 (oE [1, 2] (eOp opSub (eCall pLen [(eVar 2)]) (eCall pLen [(eVar 1)])))) (sSeq (sAsg 2 (oE [1, 2, 6] (eComp [6] (Z.iLst (eVar 2)) (Z.gName 6) Z.tYes (eOp opMul (eOp opMul (eVar 6) (eOp opIdx (eVar 1) (eUn opNeg (eC (.int 1))))) (eOp opIdx (eVar 1) (eUn opNeg (eC (.int 1)))))))) (sSeq (sForR (rRng1 (eCall pLen [(eVar 1)])) 5 (sAugSet 2 (eOp opAdd (eVar 4) (eVar 5)) opSub (eOp opMul (eOp opMul (eVar 3) (eOp opIdx (eVar 1) (eUn opNeg (eC (.int 1))))) (eOp opIdx (eVar 1) (eVar 5))))) (sPop 2)))))) (sRet (oE [2] (eCall v__law_trim [(eVar 2)])))))
def w__law_common (v__law_rest : Fn) (v__law_freed : Fn) : S :=
  (sSeq (sWhile (tV (eOp opNe (eVar 1) (eLst []))) (sSeq (sAsg 2 (oE [0, 1] (eCall v__law_rest [(eVar 0), (eVar 1)]))) (sSeq (sIf (tV (eOp opNe (eVar 2) (eLst []))) (sAsg 2 (oE [2] (eCall v__law_freed [(eVar 2)]))) sSkip) (sPar [0, 1] [(oE [1] (eVar 1)), (oE [2] (eVar 2))])))) (sRet (oE [0] (eCall v__law_freed [(eVar 0)]))))
def w_common_divisor : S :=
  (sSeq (sAsg 1 (oE [] (eC (.int 0)))) (sSeq (sFor [0] (Z.iLst (eVar 0)) (hName 2) (sSeq (sAsg 3 (oE [2] (eCall pAbs [(eVar 2)]))) (sWhile (tV (eOp opGt (eVar 3) (eC (.int 0)))) (sPar [1, 3] [(oE [3] (eVar 3)), (oE [1, 3] (eOp opMod (eVar 1) (eVar 3)))])))) (sRet (oMv 1))))
def w_freed (v_common_divisor : Fn) : S :=
  (sSeq (sAsg 1 (oE [0] (eCall v_common_divisor [(eVar 0)]))) (sRet (oE [0, 1, 2] (eComp [2] (Z.iLst (eVar 0)) (Z.gName 2) Z.tYes (eOp opFdiv (eVar 2) (eVar 1))))))
def w_trimmed : S :=
  (sSeq (sAsg 1 (oE [0] (eCall pLen [(eVar 0)]))) (sSeq (sWhile (Z.tAnd (tV (eOp opGt (eVar 1) (eC (.int 0)))) (tV (eOp opEq (eOp opIdx (eVar 0) (eOp opSub (eVar 1) (eC (.int 1)))) (eC (.int 0))))) (sAug 1 opSub (eC (.int 1)))) (sRet (oE [0, 1] (eCut (eVar 0) none (some (eVar 1)))))))
def w_parted (v_trimmed : Fn) : S :=
  (sSeq (sAsg 2 (oE [0] (eCall pList [(eVar 0)]))) (sSeq (sAsg 3 (oE [] (eLst []))) (sSeq (sAsg 4 (oE [1] (eCall pAbs [(eOp opIdx (eVar 1) (eUn opNeg (eC (.int 1))))]))) (sSeq (sWhile (tV (eOp opGe (eCall pLen [(eVar 2)]) (eCall pLen [(eVar 1)]))) (sSeq (sAsg 5 (oE [2] (eOp opIdx (eVar 2) (eUn opNeg (eC (.int 1)))))) (sSeq (sIf (tV (eOp opLt (eOp opIdx (eVar 1) (eUn opNeg (eC (.int 1)))) (eC (.int 0)))) (sAsg 5 (oE [5] (eUn opNeg (eVar 5)))) sSkip) (sSeq (sAsg 3 (oE [3, 4, 5, 8] (eOp opAdd (eComp [8] (Z.iLst (eVar 3)) (Z.gName 8) Z.tYes (eOp opMul (eVar 8) (eVar 4))) (eLst [(eVar 5)])))) (sSeq (sAsg 6 (oE [1, 2] (eOp opSub (eCall pLen [(eVar 2)]) (eCall pLen [(eVar 1)])))) (sSeq (sAsg 2 (oE [2, 4, 8] (eComp [8] (Z.iLst (eVar 2)) (Z.gName 8) Z.tYes (eOp opMul (eVar 8) (eVar 4))))) (sSeq (sForR (rRng1 (eCall pLen [(eVar 1)])) 7 (sAugSet 2 (eOp opAdd (eVar 6) (eVar 7)) opSub (eOp opMul (eVar 5) (eOp opIdx (eVar 1) (eVar 7))))) (sPop 2)))))))) (sRet (oE [2, 3] (eTup [(eCall v_trimmed [(eVar 2)]), (eRev (eVar 3))])))))))
def w_common_part (v_parted : Fn) (v_freed : Fn) : S :=
  (sSeq (sPar [2, 3] [(oE [0] (eCall pList [(eVar 0)])), (oE [1] (eCall pList [(eVar 1)]))]) (sSeq (sWhile (tV (eOp opNe (eVar 3) (eLst []))) (sSeq (sAsg 4 (oE [2, 3] (eOp opIdx (eCall v_parted [(eVar 2), (eVar 3)]) (eC (.int 0))))) (sSeq (sIf (tV (eOp opNe (eVar 4) (eLst []))) (sAsg 4 (oE [4] (eCall v_freed [(eVar 4)]))) sSkip) (sPar [2, 3] [(oE [3] (eVar 3)), (oE [4] (eVar 4))])))) (sSeq (sAsg 2 (oE [2] (eCall v_freed [(eVar 2)]))) (sSeq (sIf (tV (eOp opLt (eOp opIdx (eVar 2) (eUn opNeg (eC (.int 1)))) (eC (.int 0)))) (sRet (oE [2, 5] (eComp [5] (Z.iLst (eVar 2)) (Z.gName 5) Z.tYes (eUn opNeg (eVar 5))))) sSkip) (sRet (oMv 2))))))
def w__law_whole : S :=
  (sRet (oE [0] (eAnd (eCall (pIsi "int") [(eVar 0)]) (eNot (eCall (pIsi "bool") [(eVar 0)])))))
def w__law_good (v_common_part : Fn) (v__law_whole : Fn) : S :=
  (sSeq (sForR (rRng1 (eC (.int 2))) 3 (sSeq (sPar [5, 6] [(oE [0] (eCall pList [(eVar 0)])), (oE [1] (eCall pList [(eVar 1)]))]) (sSeq (sAsg 4 (oE [5, 6] (eCall v_common_part [(eVar 5), (eVar 6)]))) (sSeq (sIf (Z.tOr (tV (eOp opNe (eVar 5) (eVar 0))) (Z.tOr (tV (eOp opNe (eVar 6) (eVar 1))) (Z.tNot (tV (eCall (pIsi "list") [(eVar 4)]))))) (sRet (oE [] (eC (.bl false)))) sSkip) (sSeq (sIf (Z.tOr (Z.tNot (tV (eCall pAll [(eComp [7] (Z.iLst (eVar 4)) (Z.gName 7) Z.tYes (eCall v__law_whole [(eVar 7)]))]))) (tV (eOp opNe (eVar 4) (eVar 2)))) (sRet (oE [] (eC (.bl false)))) sSkip) (sSeq (sApp 4 (oE [] (eC (.int 2)))) (sSeq (sIf (Z.tOr (tV (eOp opNe (eVar 5) (eVar 0))) (tV (eOp opNe (eVar 6) (eVar 1)))) (sRet (oE [] (eC (.bl false)))) sSkip) (sApp 5 (oE [] (eC (.int 1))))))))))) (sRet (oE [] (eC (.bl true)))))
def w_law (v__law_pair : Fn) (v__law_common : Fn) (v__law_good : Fn) (v__law_freed : Fn) : S :=
  (sSeq (sUnp [2, 3] (oE [0] (eCall v__law_pair [(eVar 0)]))) (sSeq (sAsg 1 (oE [2, 3] (eCall v__law_common [(eVar 2), (eVar 3)]))) (sRet (oE [1, 2, 3] (eAnd (eCall v__law_good [(eVar 2), (eVar 3), (eVar 1)]) (eAnd (eCall v__law_good [(eVar 3), (eVar 2), (eVar 1)]) (eCall v__law_good [(eVar 2), (eVar 2), (eCall v__law_freed [(eVar 2)])])))))))
end Law
/-! Polynomials as their coefficients: what two have in common. -/
namespace Law
/-- the coefficient at i -/
def co (xs : List Int) (i : Nat) : Int := xs.getD i 0
theorem co_lt {xs : List Int} {i : Nat} (h : i < xs.length) : co xs i = xs[i] := by simp [co, h]
theorem co_ge {xs : List Int} {i : Nat} (h : xs.length ≤ i) : co xs i = 0 := by simp [co, h]
theorem co_mem {xs : List Int} {x : Int} (h : x ∈ xs) : ∃ i, co xs i = x := by
  obtain ⟨i, hi, e⟩ := List.mem_iff_getElem.mp h
  exact ⟨i, by rw [co_lt hi, e]⟩
theorem co_ext {xs ys : List Int} (hl : xs.length = ys.length) (h : ∀ i, co xs i = co ys i) : xs = ys := by
  refine List.ext_getElem hl fun i h1 h2 => ?_
  have := h i
  rwa [co_lt h1, co_lt h2] at this
theorem co_map {f : Int → Int} (h0 : f 0 = 0) (xs : List Int) (i : Nat) : co (xs.map f) i = f (co xs i) := by
  by_cases h : i < xs.length
  · rw [co_lt (by simpa using h), co_lt h]; simp
  · rw [co_ge (by simpa using h), co_ge (by omega), h0]
theorem co_set {xs : List Int} {n : Nat} (r : Int) (h : n < xs.length) (i : Nat) : co (xs.set n r) i = if i = n then r else co xs i := by
  by_cases hi : i < xs.length
  · rw [co_lt (by simpa using hi), co_lt hi, List.getElem_set]
    by_cases e : n = i
    · rw [if_pos e, if_pos e.symm]
    · rw [if_neg e, if_neg fun q => e q.symm]
  · rw [co_ge (by simpa using hi), if_neg (by omega), co_ge (by omega)]
theorem co_dropLast (xs : List Int) (i : Nat) : co xs.dropLast i = if i < xs.length - 1 then co xs i else 0 := by
  by_cases h : i < xs.length - 1
  · rw [if_pos h, co_lt (by simpa using h), co_lt (by omega), List.getElem_dropLast]
  · rw [if_neg h, co_ge (by simpa using h)]
theorem co_take (xs : List Int) (n i : Nat) : co (xs.take n) i = if i < n then co xs i else 0 := by
  by_cases h : i < n
  · rw [if_pos h]
    by_cases h2 : i < xs.length
    · rw [co_lt (by simp; omega), co_lt h2]; simp
    · rw [co_ge (by simp; omega), co_ge (by omega)]
  · rw [if_neg h, co_ge (by simp; omega)]
theorem getLast_co {xs : List Int} (h : xs ≠ []) : xs.getLast h = co xs (xs.length - 1) := by
  have := List.length_pos_iff.mpr h
  rw [co_lt (by omega), List.getLast_eq_getElem]
/-- the last one -/
def lead (xs : List Int) : Int := co xs (xs.length - 1)
/-- no zero at the end -/
def Trim (xs : List Int) : Prop := xs ≠ [] → lead xs ≠ 0

/-- what is made of a and b by sums, multiples, shifts; and what has a multiple so made -/
inductive J (a b : Nat → Int) : (Nat → Int) → Prop
  | fst : J a b a
  | snd : J a b b
  | add {f g : Nat → Int} : J a b f → J a b g → J a b fun i => f i + g i
  | smul {f : Nat → Int} (c : Int) : J a b f → J a b fun i => c * f i
  | shift {f : Nat → Int} : J a b f → J a b fun i => if i = 0 then 0 else f (i - 1)
  | div {f : Nat → Int} (c : Int) : c ≠ 0 → J a b (fun i => c * f i) → J a b f
theorem J.trans {a b a' b' : Nat → Int} (ha : J a b a') (hb : J a b b') {f : Nat → Int} (h : J a' b' f) : J a b f := by
  induction h with
  | fst => exact ha
  | snd => exact hb
  | add _ _ x y => exact x.add y
  | smul c _ x => exact x.smul c
  | shift _ x => exact x.shift
  | div c h _ x => exact x.div c h
theorem J.of_eq {a b f g : Nat → Int} (h : J a b f) (e : ∀ i, f i = g i) : J a b g := by
  have : f = g := funext e
  exact this ▸ h
theorem J.zero {a b : Nat → Int} : J a b fun _ => 0 := (J.smul 0 .fst).of_eq fun i => by simp
theorem J.shifts {a b f : Nat → Int} (h : J a b f) : ∀ s : Nat, J a b fun i => if s ≤ i then f (i - s) else 0
  | 0 => h.of_eq fun i => by simp
  | s + 1 => (h.shifts s).shift.of_eq fun i => by
    by_cases h0 : i = 0
    · simp [h0]
    · by_cases h1 : s + 1 ≤ i
      · rw [if_neg h0, if_pos (by omega), if_pos h1]; congr 1; omega
      · rw [if_neg h0, if_neg (by omega), if_neg h1]
/-- the same things are made -/
def Eqv (a b a' b' : Nat → Int) : Prop := ∀ f, J a b f ↔ J a' b' f
theorem Eqv.refl {a b : Nat → Int} : Eqv a b a b := fun _ => Iff.rfl
theorem Eqv.symm {a b a' b' : Nat → Int} (h : Eqv a b a' b') : Eqv a' b' a b := fun f => (h f).symm
theorem Eqv.trans {a b a' b' a'' b'' : Nat → Int} (h : Eqv a b a' b') (k : Eqv a' b' a'' b'') : Eqv a b a'' b'' := fun f => (h f).trans (k f)
theorem Eqv.of {a b a' b' : Nat → Int} (h1 : J a b a') (h2 : J a b b') (h3 : J a' b' a) (h4 : J a' b' b) : Eqv a b a' b' := fun _ => ⟨fun h => J.trans h3 h4 h, fun h => J.trans h1 h2 h⟩
theorem Eqv.swap {a b : Nat → Int} : Eqv a b b a := .of .snd .fst .snd .fst
/-- a remainder: c a = r + s x^k b -/
theorem J.rem {a b r q : Nat → Int} (h : J a q b) {l f : Int} {s : Nat} (hr : ∀ i, r i = l * b i - f * (if s ≤ i then q (i - s) else 0)) : J a q r :=
  ((h.smul l).add ((J.shifts .snd s).smul (-f))).of_eq fun i => by rw [hr, Int.sub_eq_add_neg, Int.neg_mul]
theorem J.unrem {a b r q : Nat → Int} {l f : Int} {s : Nat} (hl : l ≠ 0) (hr : ∀ i, r i = l * b i - f * (if s ≤ i then q (i - s) else 0)) (h : J q b a) : J q r a := by
  refine J.trans .fst (J.div l hl ((J.snd.add ((J.shifts .fst s).smul f)).of_eq fun i => ?_)) h
  rw [hr]; omega

/-! multiples of one -/
def mulU : List Int → (Nat → Int) → Nat → Int
  | [], _ => fun _ => 0
  | u :: us, g => fun i => u * g i + (if i = 0 then 0 else mulU us g (i - 1))
theorem mulU_add (g : Nat → Int) : ∀ u v : List Int, ∃ w, ∀ i, mulU w g i = mulU u g i + mulU v g i
  | [], v => ⟨v, fun i => by simp [mulU]⟩
  | u :: us, [] => ⟨u :: us, fun i => by simp [mulU]⟩
  | u :: us, v :: vs => by
    obtain ⟨w, hw⟩ := mulU_add g us vs
    refine ⟨(u + v) :: w, fun i => ?_⟩
    simp only [mulU]
    by_cases h : i = 0
    · simp only [h, if_true]; rw [Int.add_mul]; omega
    · simp only [h, if_false, hw]; rw [Int.add_mul]; omega
theorem mulU_smul (g : Nat → Int) (c : Int) : ∀ (u : List Int) (i : Nat), mulU (u.map (c * ·)) g i = c * mulU u g i
  | [], i => by simp [mulU]
  | u :: us, i => by
    simp only [List.map_cons, mulU, mulU_smul g c us]
    by_cases h : i = 0
    · simp only [h, if_true, Int.add_zero]; rw [Int.mul_assoc]
    · simp only [h, if_false]; rw [Int.mul_add, Int.mul_assoc]
theorem J.multiple {g f : Nat → Int} (h : J g (fun _ => 0) f) : ∃ (c : Int) (u : List Int), c ≠ 0 ∧ ∀ i, c * f i = mulU u g i := by
  induction h with
  | fst => exact ⟨1, [1], by decide, fun i => by simp [mulU]⟩
  | snd => exact ⟨1, [], by decide, fun i => by simp [mulU]⟩
  | @add f f' _ _ x y =>
    obtain ⟨c, u, hc, hu⟩ := x
    obtain ⟨d, v, hd, hv⟩ := y
    obtain ⟨w, hw⟩ := mulU_add g (u.map (d * ·)) (v.map (c * ·))
    refine ⟨c * d, w, Int.mul_ne_zero hc hd, fun i => ?_⟩
    rw [hw, mulU_smul, mulU_smul, ← hu, ← hv, Int.mul_add]
    congr 1
    · rw [Int.mul_comm c d, Int.mul_assoc]
    · rw [Int.mul_assoc]
  | smul k _ x =>
    obtain ⟨c, u, hc, hu⟩ := x
    exact ⟨c, u.map (k * ·), hc, fun i => by rw [mulU_smul, ← hu, Int.mul_left_comm]⟩
  | shift _ x =>
    obtain ⟨c, u, hc, hu⟩ := x
    refine ⟨c, 0 :: u, hc, fun i => ?_⟩
    simp only [mulU]
    by_cases h : i = 0
    · simp [h]
    · simp [h, hu]
  | div k hk _ x =>
    obtain ⟨c, u, hc, hu⟩ := x
    exact ⟨c * k, u, Int.mul_ne_zero hc hk, fun i => by rw [Int.mul_assoc]; exact hu i⟩
theorem mulU_top {g : Nat → Int} {d : Nat} (hg : ∀ i, d < i → g i = 0) : ∀ (u : List Int), u ≠ [] → mulU u g (u.length - 1 + d) = lead u * g d
  | [], h => (h rfl).elim
  | [u], _ => by
    simp only [mulU, List.length_cons, List.length_nil, lead, co]
    by_cases h : d = 0 <;> simp [h]
  | u :: v :: us, _ => by
    have ih := mulU_top hg (v :: us) (by simp)
    have e : (u :: v :: us).length - 1 + d = (v :: us).length - 1 + d + 1 := by simp only [List.length_cons]; omega
    rw [e]
    show u * g _ + (if _ = 0 then 0 else mulU (v :: us) g ((v :: us).length - 1 + d + 1 - 1)) = _
    rw [if_neg (by omega), Nat.add_sub_cancel, ih, hg _ (by simp only [List.length_cons]; omega)]
    simp [lead, co]
theorem mulU_snoc (g : Nat → Int) : ∀ (u : List Int) (i : Nat), mulU (u ++ [0]) g i = mulU u g i
  | [], i => by simp [mulU]
  | u :: us, i => by simp only [List.cons_append, mulU, mulU_snoc g us]
theorem mulU_trim (g : Nat → Int) : ∀ (n : Nat) (u : List Int), u.length = n → ∃ v, Trim v ∧ ∀ i, mulU v g i = mulU u g i
  | 0, u, h => ⟨[], fun h => (h rfl).elim, fun i => by rw [List.length_eq_zero_iff.mp h]⟩
  | n + 1, u, h => by
    by_cases hz : lead u = 0
    · obtain ⟨v, h1, h2⟩ := mulU_trim g n u.dropLast (by simp [h])
      refine ⟨v, h1, fun i => ?_⟩
      have hne : u ≠ [] := by rintro rfl; simp at h
      rw [h2, ← mulU_snoc]
      congr 1
      rw [← List.dropLast_concat_getLast hne]
      simp only [List.dropLast_concat]
      rw [getLast_co hne]
      rw [show co u (u.length - 1) = 0 from hz]
    · exact ⟨u, fun _ => hz, fun _ => rfl⟩
/-- no common divisor -/
def Prim (x : List Int) : Prop := ∀ d c : Int, (∀ i, d ∣ c * co x i) → d ∣ c
structure Norm (x : List Int) : Prop where
  prim : Prim x
  pos : 0 < lead x
theorem norm_ne {x : List Int} (h : Norm x) : x ≠ [] := by
  rintro rfl
  have := h.pos
  simp [lead, co] at this
theorem le_of_multiple {x y : List Int} (hx : Norm x) (hy : Norm y) (h : J (co y) (fun _ => 0) (co x)) : ∃ (c : Int) (u : List Int), c ≠ 0 ∧ u ≠ [] ∧ (∀ i, c * co x i = mulU u (co y) i) ∧ u.length - 1 + y.length ≤ x.length := by
  obtain ⟨c, u0, hc, h0⟩ := h.multiple
  obtain ⟨u, tu, hu⟩ := mulU_trim (co y) _ u0 rfl
  have ly := List.length_pos_iff.mpr (norm_ne hy)
  have lx := List.length_pos_iff.mpr (norm_ne hx)
  have e : ∀ i, c * co x i = mulU u (co y) i := fun i => by rw [h0, hu]
  have hne : u ≠ [] := by
    rintro rfl
    have := e (x.length - 1)
    simp only [mulU] at this
    rcases Int.mul_eq_zero.mp this with q | q
    · exact hc q
    · have := hx.pos
      unfold lead at this
      omega
  refine ⟨c, u, hc, hne, e, ?_⟩
  have top := mulU_top (g := co y) (d := y.length - 1) (fun i hi => co_ge (by omega)) u hne
  rw [← e] at top
  have nz : lead u * co y (y.length - 1) ≠ 0 := Int.mul_ne_zero (tu hne) (by have := hy.pos; unfold lead at this; omega)
  rw [← top] at nz
  have : co x (u.length - 1 + (y.length - 1)) ≠ 0 := fun q => nz (by rw [q, Int.mul_zero])
  have : u.length - 1 + (y.length - 1) < x.length := Classical.byContradiction fun q => this (co_ge (by omega))
  omega
theorem norm_unique {x y : List Int} (hx : Norm x) (hy : Norm y) (h : Eqv (co x) (fun _ => 0) (co y) fun _ => 0) : x = y := by
  obtain ⟨c, u, hc, hu, e, l1⟩ := le_of_multiple hx hy ((h _).mp .fst)
  obtain ⟨_, v, _, hv, _, l2⟩ := le_of_multiple hy hx ((h _).mpr .fst)
  have := List.length_pos_iff.mpr hu
  have := List.length_pos_iff.mpr hv
  have hl : x.length = y.length := by omega
  have h1 : u.length = 1 := by omega
  obtain ⟨k, rfl⟩ := List.length_eq_one_iff.mp h1
  have e' : ∀ i, c * co x i = k * co y i := fun i => by
    rw [e]
    simp only [mulU]
    split <;> simp
  have d1 : c ∣ k := hy.prim c k fun i => by rw [← e']; exact Int.dvd_mul_right _ _
  have d2 : k ∣ c := hx.prim k c fun i => by rw [e']; exact Int.dvd_mul_right _ _
  have px := hx.pos
  have py := hy.pos
  unfold lead at px py
  rw [hl] at px
  have et := e' (y.length - 1)
  generalize co x (y.length - 1) = X at *
  generalize co y (y.length - 1) = Y at *
  have na : c.natAbs = k.natAbs := Nat.dvd_antisymm (Int.natAbs_dvd_natAbs.mpr d1) (Int.natAbs_dvd_natAbs.mpr d2)
  have ck : c = k := by
    rcases Int.natAbs_eq_natAbs_iff.mp na with q | q
    · exact q
    · rw [q, Int.neg_mul] at et
      exfalso
      have hk : k ≠ 0 := by intro z; rw [z] at q; exact hc (by simpa using q)
      have : k * (X + Y) = 0 := by rw [Int.mul_add]; omega
      rcases Int.mul_eq_zero.mp this with z | z
      · exact hk z
      · omega
  refine co_ext hl fun i => ?_
  have := e' i
  rw [ck] at this hc
  exact Int.eq_of_mul_eq_mul_left hc this
/-- what is primitive is no greater than what has a multiple in common with it -/
theorem prim_le {x : List Int} {z : Nat → Int} {c l : Int} (hx : Prim x) (hc : c ≠ 0) (hl : l ≠ 0) (e : ∀ i, c * co x i = l * z i) (i : Nat) : (co x i).natAbs ≤ (z i).natAbs := by
  obtain ⟨k, hk⟩ := hx l c fun i => ⟨z i, e i⟩
  have h := e i
  rw [hk, Int.mul_assoc] at h
  have h' := Int.eq_of_mul_eq_mul_left hl h
  rw [← h', Int.natAbs_mul]
  have : k ≠ 0 := by rintro rfl; exact hc (by simpa using hk)
  exact Nat.le_mul_of_pos_left _ (by omega)
end Law
namespace Law
open Z PySem
local macro_rules
  | `(tactic| simp_arith [$as,*]) => `(tactic| simp (config := { decide := false }) only [Z.rd_nil, Z.rd_zero, Z.rd_succ, Z.erG_nil, Z.erG_cons, Z.er_frz, Z.er_lst, Z.er_tup, Z.er_fI, Z.er_fB, Z.closed_frz, Z.closed_lst, Z.closed_tup, Z.closed_fI, Z.closed_fB, Z.eVar_ev, Z.eVar_d, Z.eC_ev, Z.eC_d, Z.eOp_ev, Z.eOp_d, Z.eUn_ev, Z.eUn_d, Z.eds_nil, Z.eds_cons, Z.eods_nil, Z.eods_cons, Z.eCall_ev, Z.eCall_d, Z.eTup_ev, Z.eTup_d, Z.eLst_ev, Z.eLst_d, Z.tV_ev, Z.asB_bl, Z.tAnd_ev, Z.tOr_ev, Z.tNot_ev, Z.tYes_ev, Z.eIf_ev, Z.eIf_d, Z.eAnd_ev, Z.eAnd_d, Z.eOr_ev, Z.eOr_d, Z.eNot_ev, Z.eNot_d, Z.eCut_ev, Z.eCut_d, Z.eOpt_none, Z.eOpt_some, Z.asO_int, Z.opCut_lst, Z.asI_int, Z.asL_lst, Z.asT_tup, Z.iLst_ev, Z.iTup_ev, Z.iZip_ev, Z.iEnum_ev, Z.gName_ev, Z.opAdd_int, Z.opSub_int, Z.opMul_int, Z.opFdiv_int, Z.opMod_int, Z.opNeg_int, Z.opLt_int, Z.opLe_int, Z.opGt_int, Z.opGe_int, Z.okd_int, Z.okd_bl, Z.okd_non, Z.okd_lst, Z.okd_tup, Z.opEq_int, Z.opNe_int, Z.opIdx_lst, Z.opIdx_tup, Z.opIdx_scr, Z.er_oL, Z.closed_oL, Z.iL_inj, Z.okd_iL, Z.opEq_iL, Z.opNe_iL, Z.opNe_iL_nil, Z.opEq_iL_nil, Z.pLen_iL, Z.pList_iL, Z.asL_iL, Z.pAbs_int, List.set_cons_zero, List.set_cons_succ, List.map_cons, List.map_nil, List.length_cons, List.length_nil, Option.map_some, Option.map_none, Option.bind_some, Option.bind_none, if_true, if_false, ite_true, ite_false, reduceIte, Bool.false_eq_true, Bool.and_true, Bool.true_and, Bool.and_false, Bool.false_and, Bool.not_true, Bool.not_false, Bool.and_self, and_self, and_true, true_and, not_true_eq_false, not_false_eq_true, ne_eq, Int.reduceEq, Int.reduceNe, Int.reduceNeg, Int.reduceToNat, Int.reduceLT, Int.reduceLE, Nat.reduceAdd, Z.start, List.replicate, List.nil_append, List.cons_append, Nat.reduceSub, Nat.zero_add, eq_self, Option.some.injEq, List.all_cons, List.all_nil, List.append_nil, decide_true, decide_false, Bool.or_true, Bool.true_or, Bool.or_false, Bool.false_or, Z.opPow_ok, Z.natAbs_lit, Nat.reducePow, Nat.reduceLT, List.set_nil, List.replicate_succ, List.replicate_zero, $as,*])
def IsI (o : OD) : Prop := ∃ i : Int, o = fI i
noncomputable abbrev v_cell : Fn := Val 2 w__law_cell_at fun _ => IsI
theorem t_cell (ns : List Int) (k : Nat) : ∃ i : Int, v_cell [.scr ns, .int k] = some (fI i) := by
  have h : Can w__law_cell_at (start 2 [.scr ns, .int (k : Int)]) (Fin IsI) := by
    unfold w__law_cell_at
    refine can_seq (can_if (decide ((k : Int) < ns.length)) (by simp [Z.start, pLen]) (fun h => ?_) fun h => ?_)
    · have h : k < ns.length := by simpa using h
      refine can_ret (oE_closed (o := fI ns[k]) ?_ rfl) ⟨_, rfl⟩
      simp [Z.start, at_natCast h]
    · exact can_skip (can_ret (oE_closed (o := fI 0) rfl rfl) ⟨_, rfl⟩)
  obtain ⟨o, h1, i, rfl⟩ := val_ex (R := fun _ => IsI) h
  exact ⟨i, h1⟩
theorem fmod_nat (a b : Nat) : (a : Int).fmod (b : Int) = ((a % b : Nat) : Int) := by
  rw [Int.fmod_eq_emod_of_nonneg _ (by omega)]; rfl
theorem fm0 (a : Int) {b : Int} (h : 0 < b) : 0 ≤ a.fmod b := by rw [Int.fmod_eq_emod_of_nonneg _ (by omega)]; exact Int.emod_nonneg _ (by omega)
theorem fm1 (a : Int) {b : Int} (h : 0 < b) : a.fmod b < b := by rw [Int.fmod_eq_emod_of_nonneg _ (by omega)]; exact Int.emod_lt_of_pos _ h
noncomputable abbrev v_big : Fn := Val 7 (w__law_big v_cell) fun _ => IsI
def prL : List Int := [99989, 99971, 99961, 99929, 99923, 99907, 99901, 99881, 99877]
theorem prL_ok : ∀ j : Nat, j < 9 → 0 < prL.getD j 0 ∧ prL.getD j 0 < 100000 := by decide
theorem t_big (ns : List Int) (k : Nat) : ∃ i : Int, v_big [.scr ns, .int k] = some (fI i) := by
  have h : Can (w__law_big v_cell) (start 7 [.scr ns, .int (k : Int)]) (Fin IsI) := by
    unfold w__law_big
    obtain ⟨c, hc⟩ := t_cell ns k
    refine can_seq (can_asg (oE_closed (o := fI c) (by simp [Z.start, hc]) rfl) ?_)
    refine can_seq (can_if (decide ((10 : Int) ^ 18 ≤ c)) (by simp [Z.start, opPow]) (fun h => ?_) fun h => ?_)
    · exact can_ret (r := fI c) rfl ⟨_, rfl⟩
    refine can_skip (can_seq (can_asg (oE_closed (o := .tup (prL.map fI)) rfl rfl) ?_))
    refine can_seq (can_asg (oE_closed (o := fI 0) rfl rfl) ?_)
    refine can_seq (can_for0 (n := 64) (rng1_ok rfl (by decide)) (fun j g => ∃ (b : Int) (x y : Option OD), b.natAbs < 2 ^ (13 * j + 1) ∧ g = [some (.frz (.scr ns)), some (.frz (.int k)), some (fI c), some (.tup (prL.map fI)), some (fI b), x, y]) ⟨0, none, none, by decide, rfl⟩ (fun j g hj hg => ?_) ?_)
    · obtain ⟨b, x, y, hb, rfl⟩ := hg
      obtain ⟨d, hd⟩ := t_cell ns (k + j % 9)
      have e1 : (k : Int) + (j : Int).fmod 9 = ((k + j % 9 : Nat) : Int) := by
        rw [show (j : Int).fmod 9 = ((j % 9 : Nat) : Int) from fmod_nat j 9]; omega
      have m0 := fm0 d (b := 10 ^ 18) (by decide)
      have m1 := fm1 d (b := 10 ^ 18) (by decide)
      generalize hm : d.fmod (10 ^ 18) = m at m0 m1
      have p0 := prL_ok (j % 9) (by omega)
      have p1 : at' (prL.map D.int) ((j : Int).fmod 9) = some (.int (prL.getD (j % 9) 0)) := by
        rw [at_map', show (j : Int).fmod 9 = ((j % 9 : Nat) : Int) from fmod_nat j 9, at_natCast (show j % 9 < prL.length from by have : prL.length = 9 := rfl; omega)]
        simp [show j % 9 < prL.length from by have : prL.length = 9 := rfl; omega]
      refine can_seq (can_asg (r := fI (m + 7 * j + 1)) (g' := [some (.frz (.scr ns)), some (.frz (.int k)), some (fI c), some (.tup (prL.map fI)), some (fI b), some (fI j), y]) (oE_closed ?_ rfl) ?_)
      · have q : mulOk 7 (j : Int) = true := mulOk_of 3 6 (by decide) (by omega) (by decide) (by decide) (by decide)
        simp_arith [e1, hd, hm, q, show (10 : Int) ^ 18 ≠ 0 by decide]
      generalize ho : m + 7 * (j : Int) + 1 = one
      have o1 : one.natAbs < 2 ^ 60 := by omega
      generalize hp : prL.getD (j % 9) 0 = p at p0 p1
      have q1 : mulOk one one = true := mulOk_of 60 60 o1 o1 (by decide) (by decide) (by decide)
      have q2 : mulOk 31 (j : Int) = true := mulOk_of 5 6 (by decide) (by omega) (by decide) (by decide) (by decide)
      have f0 := fm0 (one * one + 31 * j) (b := p) (by omega)
      have f1 := fm1 (one * one + 31 * j) (b := p) (by omega)
      have q3 : mulOk ((one * one + 31 * j).fmod p) ((j : Int) + 3) = true := mulOk_of 20 20 (by omega) (by omega) (by decide) (by decide) (by decide)
      have q4 : mulOk b 8191 = true := mulOk_of (13 * j + 1) 13 hb (by decide) (by omega) (by decide) (by omega)
      generalize hf : (one * one + 31 * j).fmod p = f at *
      have h0 := fm0 (f * (j + 3)) (b := 8191) (by decide)
      have h1 := fm1 (f * (j + 3)) (b := 8191) (by decide)
      generalize hh : (f * ((j : Int) + 3)).fmod 8191 = h at *
      refine can_asg (r := fI (b * 8191 + h)) (g' := [some (.frz (.scr ns)), some (.frz (.int k)), some (fI c), some (.tup (prL.map fI)), some (fI b), some (fI j), some (fI one)]) (oE_closed ?_ rfl) ?_
      · have : List.map OD.er (List.map fI prL) = prL.map D.int := by rw [List.map_map]; rfl
        simp_arith [this, p1, q1, q2, q3, q4, hf, hh, show p ≠ 0 by omega]
      · refine ⟨b * 8191 + h, _, _, ?_, rfl⟩
        have e2 : 2 ^ (13 * (j + 1) + 1) = 2 ^ (13 * j + 1) * 8192 := by rw [show 13 * (j + 1) + 1 = (13 * j + 1) + 13 by omega, Nat.pow_add]
        rw [e2]
        generalize 2 ^ (13 * j + 1) = N at *
        omega
    · rintro g ⟨b, x, y, hb, rfl⟩
      exact can_ret (r := fI b) rfl ⟨_, rfl⟩
  obtain ⟨o, h1, i, rfl⟩ := val_ex (R := fun _ => IsI) h
  exact ⟨i, h1⟩
end Law
namespace Law
open Z PySem
local macro_rules
  | `(tactic| simp_arith [$as,*]) => `(tactic| simp (config := { decide := false }) only [Z.rd_nil, Z.rd_zero, Z.rd_succ, Z.erG_nil, Z.erG_cons, Z.er_frz, Z.er_lst, Z.er_tup, Z.er_fI, Z.er_fB, Z.closed_frz, Z.closed_lst, Z.closed_tup, Z.closed_fI, Z.closed_fB, Z.eVar_ev, Z.eVar_d, Z.eC_ev, Z.eC_d, Z.eOp_ev, Z.eOp_d, Z.eUn_ev, Z.eUn_d, Z.eds_nil, Z.eds_cons, Z.eods_nil, Z.eods_cons, Z.eCall_ev, Z.eCall_d, Z.eTup_ev, Z.eTup_d, Z.eLst_ev, Z.eLst_d, Z.tV_ev, Z.asB_bl, Z.tAnd_ev, Z.tOr_ev, Z.tNot_ev, Z.tYes_ev, Z.eIf_ev, Z.eIf_d, Z.eAnd_ev, Z.eAnd_d, Z.eOr_ev, Z.eOr_d, Z.eNot_ev, Z.eNot_d, Z.eCut_ev, Z.eCut_d, Z.eOpt_none, Z.eOpt_some, Z.asO_int, Z.opCut_lst, Z.asI_int, Z.asL_lst, Z.asT_tup, Z.iLst_ev, Z.iTup_ev, Z.iZip_ev, Z.iEnum_ev, Z.gName_ev, Z.opAdd_int, Z.opSub_int, Z.opMul_int, Z.opFdiv_int, Z.opMod_int, Z.opNeg_int, Z.opLt_int, Z.opLe_int, Z.opGt_int, Z.opGe_int, Z.okd_int, Z.okd_bl, Z.okd_non, Z.okd_lst, Z.okd_tup, Z.opEq_int, Z.opNe_int, Z.opIdx_lst, Z.opIdx_tup, Z.opIdx_scr, Z.er_oL, Z.closed_oL, Z.iL_inj, Z.okd_iL, Z.opEq_iL, Z.opNe_iL, Z.opNe_iL_nil, Z.opEq_iL_nil, Z.pLen_iL, Z.pList_iL, Z.asL_iL, Z.pAbs_int, List.set_cons_zero, List.set_cons_succ, List.map_cons, List.map_nil, List.length_cons, List.length_nil, Option.map_some, Option.map_none, Option.bind_some, Option.bind_none, if_true, if_false, ite_true, ite_false, reduceIte, Bool.false_eq_true, Bool.and_true, Bool.true_and, Bool.and_false, Bool.false_and, Bool.not_true, Bool.not_false, Bool.and_self, and_self, and_true, true_and, not_true_eq_false, not_false_eq_true, ne_eq, Int.reduceEq, Int.reduceNe, Int.reduceNeg, Int.reduceToNat, Int.reduceLT, Int.reduceLE, Nat.reduceAdd, Z.start, List.replicate, List.nil_append, List.cons_append, Nat.reduceSub, Nat.zero_add, eq_self, Option.some.injEq, List.all_cons, List.all_nil, List.append_nil, decide_true, decide_false, Bool.or_true, Bool.true_or, Bool.or_false, Bool.false_or, Z.opPow_ok, Z.natAbs_lit, Nat.reducePow, Nat.reduceLT, List.set_nil, List.replicate_succ, List.replicate_zero, $as,*])
def Small (b : Nat) (xs : List Int) : Prop := ∀ i, (co xs i).natAbs < 2 ^ b
def IsNum (o : OD) : Prop := ∃ a b : Int, o = .tup [fI a, fI b] ∧ a.natAbs < 2 ^ 100
noncomputable abbrev v_number : Fn := Val 4 w__law_number fun _ => IsNum
theorem t_number (b f : Int) : ∃ x y : Int, v_number [.int b, .int f] = some (.tup [fI x, fI y]) ∧ x.natAbs < 2 ^ 100 := by
  have h : Can w__law_number (start 4 [.int b, .int f]) (Fin IsNum) := by
    unfold w__law_number
    refine can_seq (can_asg (oE_closed (o := fI (b.fmod 4)) (by simp_arith []) rfl) ?_)
    refine can_seq (can_asg (oE_closed (o := fI (b.fdiv 4)) (by simp_arith []) rfl) ?_)
    refine can_seq (can_if (b.fmod 4 == 0) (by simp_arith []) (fun h => ?_) fun h => can_skip ?_)
    · have key : ∀ (m : Int) (Q : Out → Prop), 0 < m → m ≤ 10 ^ 30 → (∀ o, IsNum o → Q (.rt o)) → Can (sRet (oE [0, 3] (eTup [eOp opAdd (eOp opSub (eOp opMod (eVar 0) (eOp opSub (eOp opMul (eC (D.int 2)) (eVar 3)) (eC (D.int 1)))) (eVar 3)) (eC (D.int 1)), eOp opFdiv (eVar 0) (eOp opSub (eOp opMul (eC (D.int 2)) (eVar 3)) (eC (D.int 1)))]))) [some (fI (b.fdiv 4)), some (.frz (.int f)), some (fI (b.fmod 4)), some (fI m)] Q := by
        intro m Q m0 m1 hQ
        have q : mulOk 2 m = true := mulOk_of 2 100 (by decide) (by omega) (by decide) (by decide) (by decide)
        have a0 := fm0 (b.fdiv 4) (b := 2 * m - 1) (by omega)
        have a1 := fm1 (b.fdiv 4) (b := 2 * m - 1) (by omega)
        refine can_ret (oE_closed (o := .tup [fI ((b.fdiv 4).fmod (2 * m - 1) - m + 1), fI ((b.fdiv 4).fdiv (2 * m - 1))]) ?_ rfl) (hQ _ ⟨_, _, rfl, by omega⟩)
        simp_arith [q, show 2 * m - 1 ≠ 0 by omega]
      by_cases hf : 14 < f
      · refine can_seq (can_asg (oE_closed (o := fI (10 ^ 30)) (by simp_arith [hf]) rfl) ?_)
        refine key (10 ^ 30) _ (by decide) (by decide) ?_
        exact fun o ho => ho
      · refine can_seq (can_asg (oE_closed (o := fI (10 ^ 14)) (by simp_arith [hf]) rfl) ?_)
        refine key (10 ^ 14) _ (by decide) (by decide) ?_
        exact fun o ho => ho
    · have a0 := fm0 (b.fdiv 4) (b := 9) (by omega)
      have a1 := fm1 (b.fdiv 4) (b := 9) (by omega)
      exact can_ret (oE_closed (o := .tup [fI ((b.fdiv 4).fmod 9 - 4), fI ((b.fdiv 4).fdiv 9)]) (by simp_arith []) rfl) ⟨_, _, rfl, by omega⟩
  obtain ⟨o, h1, x, y, rfl, h2⟩ := val_ex (R := fun _ => IsNum) h
  exact ⟨x, y, h1, h2⟩
structure Ok (b m : Nat) (xs : List Int) : Prop where
  ne : xs ≠ []
  len : xs.length ≤ m
  lead : lead xs ≠ 0
  small : Small b xs
theorem Small.snoc {b : Nat} {xs : List Int} {a : Int} (h : Small b xs) (ha : a.natAbs < 2 ^ b) : Small b (xs ++ [a]) := fun i => by
  by_cases h1 : i < xs.length
  · have : co (xs ++ [a]) i = co xs i := by unfold co; rw [List.getD_eq_getElem?_getD, List.getElem?_append_left h1, ← List.getD_eq_getElem?_getD]
    rw [this]; exact h i
  · by_cases h2 : i = xs.length
    · subst h2
      have : co (xs ++ [a]) xs.length = a := by simp [co]
      rw [this]; exact ha
    · rw [co_ge (by simp; omega)]; exact Nat.pow_pos (by decide)
def IsPoly (ds : List D) (o : OD) : Prop := ∀ m : Nat, ds[1]? = some (.int m) → ∃ xs, o = oL xs ∧ Ok 100 m xs
noncomputable abbrev v_poly : Fn := Val 7 (w__law_poly v_number) IsPoly
theorem place_last {n : Nat} (h : 0 < n) : place n (-1) = some (n - 1) := by
  unfold place
  rw [if_neg (by omega), if_pos (by omega)]
  congr 1
  omega
theorem int_at1 {a c : D} {m k : Nat} (h : ([a, .int (m : Int), c] : List D)[1]? = some (.int (k : Int))) : m = k := by
  replace h : some (D.int (m : Int)) = some (.int (k : Int)) := h
  injection h with h
  injection h with h
  omega
theorem t_poly (b f : Int) (m : Nat) (h0 : 0 < m) (h1 : m < 100) : ∃ xs, v_poly [.int b, .int m, .int f] = some (oL xs) ∧ Ok 100 m xs := by
  have h : Can (w__law_poly v_number) (start 7 [.int b, .int (m : Int), .int f]) (Fin (IsPoly [.int b, .int (m : Int), .int f])) := by
    unfold w__law_poly
    have a0 := fm0 b (b := m) (by omega)
    have a1 := fm1 b (b := m) (by omega)
    have hm : (m : Int) ≠ 0 := by omega
    obtain ⟨n, hn⟩ : ∃ n : Nat, 1 + b.fmod m = n := ⟨(1 + b.fmod m).toNat, by omega⟩
    refine can_seq (can_asg (oE_closed (o := fI n) (by simp_arith [hm, hn]) rfl) ?_)
    refine can_seq (can_asg (oE_closed (o := fI (b.fdiv m)) (by simp_arith [hm]) rfl) ?_)
    refine can_seq (can_asg (oE_closed (o := oL []) rfl rfl) ?_)
    refine can_seq (can_for0 (n := n) (rng1_ok (by simp_arith []) (by omega)) (fun j g => ∃ (c : Int) (xs : List Int) (x y : Option OD), xs.length = j ∧ Small 100 xs ∧ g = [some (fI c), some (.frz (.int m)), some (.frz (.int f)), some (fI n), some (oL xs), x, y]) ⟨_, [], _, _, rfl, fun i => by rw [co_ge (by simp)]; exact Nat.pow_pos (by decide), rfl⟩ (fun j g hj hg => ?_) ?_)
    · obtain ⟨c, xs, x, y, hl, hs, rfl⟩ := hg
      obtain ⟨u, v, hc, hu⟩ := t_number c f
      refine can_seq (can_unp (oE_closed (o := .tup [fI u, fI v]) (by simp_arith [hc]) rfl) (os := [fI u, fI v]) rfl ?_)
      exact can_app (oE_closed (o := fI u) rfl rfl) (lstAt_oL rfl) (lstAt_oL rfl) (by rw [List.length_map]; unfold sz; omega) ⟨v, xs ++ [u], _, _, by simp [hl], hs.snoc hu, by unfold oL; rw [List.map_append]; rfl⟩
    · rintro g ⟨c, xs, x, y, hl, hs, rfl⟩
      have hne : xs ≠ [] := by rintro rfl; simp at hl; omega
      have hz : lead xs = xs.getLast hne := (getLast_co hne).symm
      refine can_seq (can_if (lead xs == 0) (by simp_arith [opIdx_iL_last hne, hz]) (fun h => ?_) fun h => ?_)
      · have e0 := fm0 c (b := 2) (by omega)
        have e1 := fm1 c (b := 2) (by omega)
        have q : mulOk 2 (c.fmod 2) = true := mulOk_of 2 2 (by decide) (by omega) (by decide) (by decide) (by decide)
        have pl := place_last (List.length_pos_iff.mpr hne)
        refine can_setIx (j := -1) (oE_closed (o := fI (1 - 2 * c.fmod 2)) (by simp_arith [q]) rfl) (by simp_arith []) (lstAt_oL rfl) (by rw [List.length_map]; exact pl) ?_
        refine can_ret (r := oL (xs.set (xs.length - 1) (1 - 2 * c.fmod 2))) (by unfold oL; rw [List.map_set]; rfl) fun k hk => ?_
        obtain rfl : m = k := int_at1 hk
        have hx := List.length_pos_iff.mpr hne
        refine ⟨_, rfl, by simpa using hne, by simp; omega, ?_, fun i => ?_⟩
        · unfold lead
          rw [List.length_set, co_set _ (by omega), if_pos rfl]
          omega
        · rw [co_set _ (by omega)]
          split
          · have : (1 - 2 * c.fmod 2).natAbs < 2 := by omega
            exact Nat.lt_of_lt_of_le this (by decide)
          · exact hs i
      · refine can_skip (can_ret (r := oL xs) rfl fun k hk => ?_)
        obtain rfl : m = k := int_at1 hk
        exact ⟨_, rfl, hne, by omega, by simpa using h, hs⟩
  obtain ⟨o, h1, h2⟩ := val_ex (R := IsPoly) h
  obtain ⟨xs, rfl, h3⟩ := h2 m rfl
  exact ⟨xs, h1, h3⟩
end Law
namespace Law
open Z PySem
local macro_rules
  | `(tactic| simp_arith [$as,*]) => `(tactic| simp (config := { decide := false }) only [Z.rd_nil, Z.rd_zero, Z.rd_succ, Z.erG_nil, Z.erG_cons, Z.er_frz, Z.er_lst, Z.er_tup, Z.er_fI, Z.er_fB, Z.closed_frz, Z.closed_lst, Z.closed_tup, Z.closed_fI, Z.closed_fB, Z.eVar_ev, Z.eVar_d, Z.eC_ev, Z.eC_d, Z.eOp_ev, Z.eOp_d, Z.eUn_ev, Z.eUn_d, Z.eds_nil, Z.eds_cons, Z.eods_nil, Z.eods_cons, Z.eCall_ev, Z.eCall_d, Z.eTup_ev, Z.eTup_d, Z.eLst_ev, Z.eLst_d, Z.tV_ev, Z.asB_bl, Z.tAnd_ev, Z.tOr_ev, Z.tNot_ev, Z.tYes_ev, Z.eIf_ev, Z.eIf_d, Z.eAnd_ev, Z.eAnd_d, Z.eOr_ev, Z.eOr_d, Z.eNot_ev, Z.eNot_d, Z.eCut_ev, Z.eCut_d, Z.eOpt_none, Z.eOpt_some, Z.asO_int, Z.opCut_lst, Z.asI_int, Z.asL_lst, Z.asT_tup, Z.iLst_ev, Z.iTup_ev, Z.iZip_ev, Z.iEnum_ev, Z.gName_ev, Z.opAdd_int, Z.opSub_int, Z.opMul_int, Z.opFdiv_int, Z.opMod_int, Z.opNeg_int, Z.opLt_int, Z.opLe_int, Z.opGt_int, Z.opGe_int, Z.okd_int, Z.okd_bl, Z.okd_non, Z.okd_lst, Z.okd_tup, Z.opEq_int, Z.opNe_int, Z.opIdx_lst, Z.opIdx_tup, Z.opIdx_scr, Z.er_oL, Z.closed_oL, Z.iL_inj, Z.okd_iL, Z.opEq_iL, Z.opNe_iL, Z.opNe_iL_nil, Z.opEq_iL_nil, Z.pLen_iL, Z.pList_iL, Z.asL_iL, Z.pAbs_int, List.set_cons_zero, List.set_cons_succ, List.map_cons, List.map_nil, List.length_cons, List.length_nil, Option.map_some, Option.map_none, Option.bind_some, Option.bind_none, if_true, if_false, ite_true, ite_false, reduceIte, Bool.false_eq_true, Bool.and_true, Bool.true_and, Bool.and_false, Bool.false_and, Bool.not_true, Bool.not_false, Bool.and_self, and_self, and_true, true_and, not_true_eq_false, not_false_eq_true, ne_eq, Int.reduceEq, Int.reduceNe, Int.reduceNeg, Int.reduceToNat, Int.reduceLT, Int.reduceLE, Nat.reduceAdd, Z.start, List.replicate, List.nil_append, List.cons_append, Nat.reduceSub, Nat.zero_add, eq_self, Option.some.injEq, List.all_cons, List.all_nil, List.append_nil, decide_true, decide_false, Bool.or_true, Bool.true_or, Bool.or_false, Bool.false_or, Z.opPow_ok, Z.natAbs_lit, Nat.reducePow, Nat.reduceLT, List.set_nil, List.replicate_succ, List.replicate_zero, $as,*])
theorem Small.mono {a b : Nat} {xs : List Int} (h : Small a xs) (k : a ≤ b) : Small b xs := fun i => Nat.lt_of_lt_of_le (h i) (Nat.pow_le_pow_right (by decide) k)
theorem Ok.mono {a b m n : Nat} {xs : List Int} (h : Ok a m xs) (k : a ≤ b) (l : m ≤ n) : Ok b n xs := ⟨h.ne, Nat.le_trans h.len l, h.lead, h.small.mono k⟩
theorem natAbs_mul_lt {x y : Int} {a b : Nat} (h1 : x.natAbs < 2 ^ a) (h2 : y.natAbs < 2 ^ b) : (x * y).natAbs < 2 ^ (a + b) := by
  rw [Int.natAbs_mul, Nat.pow_add]
  exact Nat.mul_lt_mul'' h1 h2
theorem co_zeros (n i : Nat) : co ((List.range n).map fun _ => (0 : Int)) i = 0 := by
  by_cases h : i < n
  · rw [co_lt (by simpa using h)]; simp
  · rw [co_ge (by simpa using h)]
def IsTimes (ds : List D) (o : OD) : Prop := ∀ a b : List Int, ds = [iL a, iL b] → ∃ c, o = oL c ∧ Ok 210 (a.length + b.length - 1) c
noncomputable abbrev v_times : Fn := Val 6 w__law_times IsTimes
theorem iL_get {xs : List Int} {i : Nat} (h : i < xs.length) : opIdx (iL xs) (.int (i : Int)) = some (fI (co xs i)) := by rw [opIdx_iL_nat i rfl h, co_lt h]
theorem t_times {a b : List Int} {m n : Nat} (ha : Ok 100 m a) (hb : Ok 100 n b) (hm : m ≤ 30) (hn : n ≤ 30) : ∃ c, v_times [iL a, iL b] = some (oL c) ∧ Ok 210 (a.length + b.length - 1) c := by
  have la := List.length_pos_iff.mpr ha.ne
  have lb := List.length_pos_iff.mpr hb.ne
  have la2 := ha.len
  have lb2 := hb.len
  have h : Can w__law_times (start 6 [iL a, iL b]) (Fin (IsTimes [iL a, iL b])) := by
    unfold w__law_times
    have e0 : (a.length : Int) + b.length - 1 = ((a.length + b.length - 1 : Nat) : Int) := by omega
    refine can_seq (can_asg (oE_closed (o := oL ((List.range (a.length + b.length - 1)).map fun _ => 0)) ?_ (closed_oL _)) ?_)
    · rw [comp_rng (n := a.length + b.length - 1) (lo := 0) (h := fun _ => fI 0) (irng1_ok ?_ (by omega)) (by unfold sz; omega) (fun _ _ => rfl) (fun _ _ => rfl)]
      · unfold oL; rw [List.map_map]; rfl
      · simp_arith [e0]
    refine can_seq (can_for0 (n := a.length) (rng1_ok (by simp_arith []) (by omega)) (fun i g => ∃ (c : List Int) (x y z : Option OD), c.length = a.length + b.length - 1 ∧ (∀ k, (co c k).natAbs ≤ (i * b.length) * 2 ^ 200) ∧ (co c (a.length + b.length - 2) = if i = a.length then lead a * lead b else 0) ∧ g = [some (.frz (iL a)), some (.frz (iL b)), some (oL c), x, y, z]) ⟨_, _, _, _, by simp, fun k => ?_, ?_, rfl⟩ (fun i g hi hg => ?_) ?_)
    · rw [co_zeros]; simp
    · rw [co_zeros, if_neg (by omega)]
    · obtain ⟨c, x, y, z, hl, hc, ht, rfl⟩ := hg
      refine can_for0 (n := b.length) (rng1_ok (by simp_arith []) (by omega)) (fun j g => ∃ (c : List Int) (y z : Option OD), c.length = a.length + b.length - 1 ∧ (∀ k, (co c k).natAbs ≤ (i * b.length + j) * 2 ^ 200) ∧ (co c (a.length + b.length - 2) = if i = a.length - 1 ∧ j = b.length then lead a * lead b else 0) ∧ g = [some (.frz (iL a)), some (.frz (iL b)), some (oL c), some (fI i), y, z]) ⟨c, _, _, hl, hc, ?_, rfl⟩ (fun j g hj hg => ?_) ?_
      · rw [ht, if_neg (by omega), if_neg (by omega)]
      · obtain ⟨c, y, z, hl, hc, ht, rfl⟩ := hg
        have s1 := ha.small i
        have s2 := hb.small j
        have q : mulOk (co a i) (co b j) = true := mulOk_of 100 100 s1 s2 (by decide) (by decide) (by decide)
        have s3 : (co a i * co b j).natAbs < 2 ^ 200 := natAbs_mul_lt (b := 100) s1 s2
        have hij : i + j < c.length := by omega
        refine can_augIx (j := ((i + j : Nat) : Int)) (n := i + j) (x := co c (i + j)) (y := co a i * co b j) (r := co c (i + j) + co a i * co b j) ?_ (lstAt_oL rfl) ?_ ?_ ?_ rfl ?_
        · simp_arith [Int.natCast_add]
        · unfold place; rw [if_pos (by omega), if_pos (by rw [List.length_map]; omega), Int.toNat_natCast]
        · rw [List.getElem?_map, List.getElem?_eq_getElem hij, co_lt hij]; rfl
        · simp_arith [iL_get hi, iL_get hj, q]
        · refine ⟨c.set (i + j) (co c (i + j) + co a i * co b j), some (fI j), z, by simp [hl], fun k => ?_, ?_, by unfold oL; rw [List.map_set]; rfl⟩
          · rw [co_set _ hij]
            have h1 := hc k
            have e1 : (i * b.length + (j + 1)) * 2 ^ 200 = (i * b.length + j) * 2 ^ 200 + 2 ^ 200 := by rw [← Nat.add_assoc, Nat.add_mul, Nat.one_mul]
            rw [e1]
            split
            · rename_i hk; subst hk
              exact Nat.le_trans (Int.natAbs_add_le _ _) (Nat.add_le_add h1 (Nat.le_of_lt s3))
            · exact Nat.le_trans h1 (Nat.le_add_right _ _)
          · rw [co_set _ hij]
            by_cases hk : a.length + b.length - 2 = i + j
            · rw [if_pos hk, if_pos (by omega)]
              rw [hk, if_neg (by omega)] at ht
              rw [ht, Int.zero_add]
              unfold lead
              rw [show i = a.length - 1 by omega, show j = b.length - 1 by omega]
            · rw [if_neg hk, ht, if_neg (by omega), if_neg (by omega)]
      · rintro g ⟨c, y, z, hl, hc, ht, rfl⟩
        refine ⟨c, _, _, _, hl, fun k => ?_, ?_, rfl⟩
        · rw [Nat.add_mul, Nat.one_mul]; exact hc k
        · rw [ht]
          by_cases hk : i = a.length - 1
          · rw [if_pos ⟨hk, rfl⟩, if_pos (by omega)]
          · rw [if_neg (fun q => hk q.1), if_neg (by omega)]
    · rintro g ⟨c, x, y, z, hl, hc, ht, rfl⟩
      refine can_ret (r := oL c) rfl fun a' b' he => ?_
      rw [if_pos rfl] at ht
      have e1 : iL a = iL a' ∧ iL b = iL b' := by injection he with x y; injection y with y _; exact ⟨x, y⟩
      obtain rfl := iL_inj.mp e1.1
      obtain rfl := iL_inj.mp e1.2
      refine ⟨c, rfl, ?_, by omega, ?_, fun k => ?_⟩
      · rintro rfl; simp at hl; omega
      · unfold lead
        rw [hl, show a.length + b.length - 1 - 1 = a.length + b.length - 2 by omega, ht]
        exact Int.mul_ne_zero ha.lead hb.lead
      · refine Nat.lt_of_le_of_lt (hc k) ?_
        have : a.length * b.length < 1024 := Nat.lt_of_le_of_lt (Nat.mul_le_mul (show a.length ≤ 30 by omega) (show b.length ≤ 30 by omega)) (by decide)
        have e : (2 : Nat) ^ 210 = 1024 * 2 ^ 200 := by decide
        rw [e]
        exact Nat.mul_lt_mul_of_pos_right this (Nat.pow_pos (by decide))
  obtain ⟨o, h1, h2⟩ := val_ex (R := IsTimes) h
  obtain ⟨c, rfl, h3⟩ := h2 a b rfl
  exact ⟨c, h1, h3⟩
end Law
namespace Law
open Z PySem
local macro_rules
  | `(tactic| simp_arith [$as,*]) => `(tactic| simp (config := { decide := false }) only [Z.rd_nil, Z.rd_zero, Z.rd_succ, Z.erG_nil, Z.erG_cons, Z.er_frz, Z.er_lst, Z.er_tup, Z.er_fI, Z.er_fB, Z.closed_frz, Z.closed_lst, Z.closed_tup, Z.closed_fI, Z.closed_fB, Z.eVar_ev, Z.eVar_d, Z.eC_ev, Z.eC_d, Z.eOp_ev, Z.eOp_d, Z.eUn_ev, Z.eUn_d, Z.eds_nil, Z.eds_cons, Z.eods_nil, Z.eods_cons, Z.eCall_ev, Z.eCall_d, Z.eTup_ev, Z.eTup_d, Z.eLst_ev, Z.eLst_d, Z.tV_ev, Z.asB_bl, Z.tAnd_ev, Z.tOr_ev, Z.tNot_ev, Z.tYes_ev, Z.eIf_ev, Z.eIf_d, Z.eAnd_ev, Z.eAnd_d, Z.eOr_ev, Z.eOr_d, Z.eNot_ev, Z.eNot_d, Z.eCut_ev, Z.eCut_d, Z.eOpt_none, Z.eOpt_some, Z.asO_int, Z.opCut_lst, Z.asI_int, Z.asL_lst, Z.asT_tup, Z.iLst_ev, Z.iTup_ev, Z.iZip_ev, Z.iEnum_ev, Z.gName_ev, Z.opAdd_int, Z.opSub_int, Z.opMul_int, Z.opFdiv_int, Z.opMod_int, Z.opNeg_int, Z.opLt_int, Z.opLe_int, Z.opGt_int, Z.opGe_int, Z.okd_int, Z.okd_bl, Z.okd_non, Z.okd_lst, Z.okd_tup, Z.opEq_int, Z.opNe_int, Z.opIdx_lst, Z.opIdx_tup, Z.opIdx_scr, Z.er_oL, Z.closed_oL, Z.iL_inj, Z.okd_iL, Z.opEq_iL, Z.opNe_iL, Z.opNe_iL_nil, Z.opEq_iL_nil, Z.pLen_iL, Z.pList_iL, Z.asL_iL, Z.pAbs_int, List.set_cons_zero, List.set_cons_succ, List.map_cons, List.map_nil, List.length_cons, List.length_nil, Option.map_some, Option.map_none, Option.bind_some, Option.bind_none, if_true, if_false, ite_true, ite_false, reduceIte, Bool.false_eq_true, Bool.and_true, Bool.true_and, Bool.and_false, Bool.false_and, Bool.not_true, Bool.not_false, Bool.and_self, and_self, and_true, true_and, not_true_eq_false, not_false_eq_true, ne_eq, Int.reduceEq, Int.reduceNe, Int.reduceNeg, Int.reduceToNat, Int.reduceLT, Int.reduceLE, Nat.reduceAdd, Z.start, List.replicate, List.nil_append, List.cons_append, Nat.reduceSub, Nat.zero_add, eq_self, Option.some.injEq, List.all_cons, List.all_nil, List.append_nil, decide_true, decide_false, Bool.or_true, Bool.true_or, Bool.or_false, Bool.false_or, Z.opPow_ok, Z.natAbs_lit, Nat.reducePow, Nat.reduceLT, List.set_nil, List.replicate_succ, List.replicate_zero, $as,*])
def IsPair (o : OD) : Prop := ∃ p q, o = .tup [oL p, oL q] ∧ Ok 212 13 p ∧ Ok 212 13 q
noncomputable abbrev v_pair : Fn := Val 6 (w__law_pair v_big v_poly v_times) fun _ => IsPair
theorem t_pair (ns : List Int) : ∃ p q, v_pair [.scr ns] = some (.tup [oL p, oL q]) ∧ Ok 212 13 p ∧ Ok 212 13 q := by
  have h : Can (w__law_pair v_big v_poly v_times) (start 6 [.scr ns]) (Fin IsPair) := by
    unfold w__law_pair
    obtain ⟨w, hw⟩ : ∃ i, v_big [.scr ns, .int 3] = some (fI i) := t_big ns 3
    obtain ⟨b0, h0⟩ : ∃ i, v_big [.scr ns, .int 0] = some (fI i) := t_big ns 0
    obtain ⟨b1, h1⟩ : ∃ i, v_big [.scr ns, .int 1] = some (fI i) := t_big ns 1
    obtain ⟨b2, h2⟩ : ∃ i, v_big [.scr ns, .int 2] = some (fI i) := t_big ns 2
    refine can_seq (can_asg (oE_closed (o := fI w) (by simp_arith [hw]) rfl) ?_)
    refine can_seq (can_if (w.fmod 4 == 0) (by simp_arith []) (fun _ => ?_) fun _ => can_skip ?_)
    · obtain ⟨p, hp, op⟩ : ∃ xs, v_poly [.int b0, .int 13, .int 30] = some (oL xs) ∧ Ok 100 13 xs := t_poly b0 30 13 (by decide) (by decide)
      obtain ⟨q, hq, oq⟩ : ∃ xs, v_poly [.int b1, .int 13, .int 30] = some (oL xs) ∧ Ok 100 13 xs := t_poly b1 30 13 (by decide) (by decide)
      exact can_ret (oE_closed (o := .tup [oL p, oL q]) (by simp_arith [h0, h1, hp, hq]) (by simp_arith [])) ⟨p, q, rfl, op.mono (by decide) (Nat.le_refl _), oq.mono (by decide) (Nat.le_refl _)⟩
    · obtain ⟨c, hc, oc⟩ : ∃ xs, v_poly [.int b2, .int 5, .int 14] = some (oL xs) ∧ Ok 100 5 xs := t_poly b2 14 5 (by decide) (by decide)
      obtain ⟨p, hp, op⟩ : ∃ xs, v_poly [.int b0, .int 9, .int 14] = some (oL xs) ∧ Ok 100 9 xs := t_poly b0 14 9 (by decide) (by decide)
      obtain ⟨q, hq, oq⟩ : ∃ xs, v_poly [.int b1, .int 9, .int 14] = some (oL xs) ∧ Ok 100 9 xs := t_poly b1 14 9 (by decide) (by decide)
      obtain ⟨p', hp', op'⟩ := t_times oc op (by decide) (by decide)
      obtain ⟨q', hq', oq'⟩ := t_times oc oq (by decide) (by decide)
      have l1 := oc.len
      have l2 := op.len
      have l3 := oq.len
      replace op' := op'.mono (Nat.le_refl 210) (show _ ≤ 13 by omega)
      replace oq' := oq'.mono (Nat.le_refl 210) (show _ ≤ 13 by omega)
      refine can_seq (can_asg (oE_closed (o := oL c) (by simp_arith [h2, hc]) (closed_oL _)) ?_)
      refine can_seq (can_asg (oE_closed (o := oL p') (by simp_arith [h0, hp, hp']) (closed_oL _)) ?_)
      refine can_seq (can_asg (oE_closed (o := oL q') (by simp_arith [h1, hq, hq']) (closed_oL _)) ?_)
      refine can_seq (can_if ((w.fdiv 4).fmod 8 == 0) (by simp_arith []) (fun _ => ?_) fun _ => can_skip ?_)
      · have m0 := fm0 (w.fdiv 32) (b := 4) (by decide)
        have m1 := fm1 (w.fdiv 32) (b := 4) (by decide)
        have q2 : mulOk 2 ((w.fdiv 32).fmod 4) = true := mulOk_of 4 4 (by decide) (by omega) (by decide) (by decide) (by decide)
        have nz : -3 + 2 * (w.fdiv 32).fmod 4 ≠ 0 := by omega
        have sm : (-3 + 2 * (w.fdiv 32).fmod 4).natAbs < 2 ^ 2 := by omega
        generalize hs : -3 + 2 * (w.fdiv 32).fmod 4 = s at nz sm
        refine can_asg (oE_closed (o := oL (p'.map (· * s))) ?_ (closed_oL _)) ?_
        · rw [comp_ints (xs := p') (h := fun x => fI (x * s)) (by simp_arith []) (by have := op'.len; unfold sz; omega) (fun _ _ => rfl) (fun x hx => ?_)]
          · unfold oL; rw [List.map_map]; rfl
          · obtain ⟨i, rfl⟩ := co_mem hx
            have q3 : mulOk (co p' i) s = true := mulOk_of 210 2 (op'.small i) sm (by decide) (by decide) (by decide)
            simp_arith [wipeE, q2, hs, q3]
        · refine can_ret (r := .tup [oL p', oL (p'.map (· * s))]) rfl ⟨_, _, rfl, op'.mono (by decide) (Nat.le_refl _), by simpa using op'.ne, by simpa using op'.len, ?_, fun i => ?_⟩
          · unfold lead
            rw [List.length_map, co_map (Int.zero_mul s)]
            exact Int.mul_ne_zero op'.lead nz
          · rw [co_map (Int.zero_mul s)]
            exact natAbs_mul_lt (b := 2) (op'.small i) sm
      · exact can_ret (r := .tup [oL p', oL q']) rfl ⟨_, _, rfl, op'.mono (by decide) (Nat.le_refl _), oq'.mono (by decide) (Nat.le_refl _)⟩
  obtain ⟨o, h1, p, q, rfl, h2⟩ := val_ex (R := fun _ => IsPair) h
  exact ⟨p, q, h1, h2⟩
end Law
namespace Law
open Z PySem
local macro_rules
  | `(tactic| simp_arith [$as,*]) => `(tactic| simp (config := { decide := false }) only [Z.rd_nil, Z.rd_zero, Z.rd_succ, Z.erG_nil, Z.erG_cons, Z.er_frz, Z.er_lst, Z.er_tup, Z.er_fI, Z.er_fB, Z.closed_frz, Z.closed_lst, Z.closed_tup, Z.closed_fI, Z.closed_fB, Z.eVar_ev, Z.eVar_d, Z.eC_ev, Z.eC_d, Z.eOp_ev, Z.eOp_d, Z.eUn_ev, Z.eUn_d, Z.eds_nil, Z.eds_cons, Z.eods_nil, Z.eods_cons, Z.eCall_ev, Z.eCall_d, Z.eTup_ev, Z.eTup_d, Z.eLst_ev, Z.eLst_d, Z.tV_ev, Z.asB_bl, Z.tAnd_ev, Z.tOr_ev, Z.tNot_ev, Z.tYes_ev, Z.eIf_ev, Z.eIf_d, Z.eAnd_ev, Z.eAnd_d, Z.eOr_ev, Z.eOr_d, Z.eNot_ev, Z.eNot_d, Z.eCut_ev, Z.eCut_d, Z.eOpt_none, Z.eOpt_some, Z.asO_int, Z.opCut_lst, Z.asI_int, Z.asL_lst, Z.asT_tup, Z.iLst_ev, Z.iTup_ev, Z.iZip_ev, Z.iEnum_ev, Z.gName_ev, Z.opAdd_int, Z.opSub_int, Z.opMul_int, Z.opFdiv_int, Z.opMod_int, Z.opNeg_int, Z.opLt_int, Z.opLe_int, Z.opGt_int, Z.opGe_int, Z.okd_int, Z.okd_bl, Z.okd_non, Z.okd_lst, Z.okd_tup, Z.opEq_int, Z.opNe_int, Z.opIdx_lst, Z.opIdx_tup, Z.opIdx_scr, Z.er_oL, Z.closed_oL, Z.iL_inj, Z.okd_iL, Z.opEq_iL, Z.opNe_iL, Z.opNe_iL_nil, Z.opEq_iL_nil, Z.pLen_iL, Z.pList_iL, Z.asL_iL, Z.pAbs_int, List.set_cons_zero, List.set_cons_succ, List.map_cons, List.map_nil, List.length_cons, List.length_nil, Option.map_some, Option.map_none, Option.bind_some, Option.bind_none, if_true, if_false, ite_true, ite_false, reduceIte, Bool.false_eq_true, Bool.and_true, Bool.true_and, Bool.and_false, Bool.false_and, Bool.not_true, Bool.not_false, Bool.and_self, and_self, and_true, true_and, not_true_eq_false, not_false_eq_true, ne_eq, Int.reduceEq, Int.reduceNe, Int.reduceNeg, Int.reduceToNat, Int.reduceLT, Int.reduceLE, Nat.reduceAdd, Z.start, List.replicate, List.nil_append, List.cons_append, Nat.reduceSub, Nat.zero_add, eq_self, Option.some.injEq, List.all_cons, List.all_nil, List.append_nil, decide_true, decide_false, Bool.or_true, Bool.true_or, Bool.or_false, Bool.false_or, Z.opPow_ok, Z.natAbs_lit, Nat.reducePow, Nat.reduceLT, List.set_nil, List.replicate_succ, List.replicate_zero, $as,*])
/-- f: what the first k of y have in common -/
structure Gd (y : List Int) (k : Nat) (f : Int) : Prop where
  nn : 0 ≤ f
  iff : ∀ d c : Int, (∀ i, i < k → d ∣ c * co y i) ↔ d ∣ c * f
theorem gd_zero (y : List Int) : Gd y 0 0 := ⟨by decide, fun d c => ⟨fun _ => by simp, fun _ i hi => absurd hi (by omega)⟩⟩
theorem step_dvd {d c f o : Int} : (d ∣ c * o ∧ d ∣ c * f.fmod o) ↔ (d ∣ c * f ∧ d ∣ c * o) := by
  have e : f = f.fmod o + o * f.fdiv o := (Int.fmod_add_mul_fdiv f o).symm
  have e2 : c * f = c * f.fmod o + (c * o) * f.fdiv o := by rw [Int.mul_assoc, ← Int.mul_add, ← e]
  constructor
  · rintro ⟨h1, h2⟩
    exact ⟨e2 ▸ Int.dvd_add h2 (Int.dvd_trans h1 (Int.dvd_mul_right _ _)), h1⟩
  · rintro ⟨h1, h2⟩
    refine ⟨h2, ?_⟩
    have := Int.dvd_sub h1 (Int.dvd_trans h2 (Int.dvd_mul_right _ (f.fdiv o)))
    rwa [e2, Int.add_sub_cancel] at this
theorem dvd_abs {d c x : Int} : d ∣ c * (x.natAbs : Int) ↔ d ∣ c * x := by
  rcases Int.natAbs_eq x with h | h
  · rw [← h]
  · rw [show (x.natAbs : Int) = -x by omega, Int.mul_neg, Int.dvd_neg]
structure Freed (y : List Int) (c : Int) (x : List Int) : Prop where
  nz : c ≠ 0
  len : x.length = y.length
  eq : ∀ i, co y i = c * co x i
  prim : Prim x
theorem freed_of {y : List Int} {f c : Int} (g : Gd y y.length f) (hy : lead y ≠ 0) (hc : c = f ∨ c = -f) : Freed y c (y.map (·.fdiv c)) := by
  have hn : ∀ i, f ∣ co y i := fun i => by
    by_cases hi : i < y.length
    · have := (g.iff f 1).mpr (by rw [Int.one_mul]; exact Int.dvd_refl f) i hi
      rwa [Int.one_mul] at this
    · rw [co_ge (by omega)]; exact Int.dvd_zero _
  have f0 : f ≠ 0 := by
    rintro rfl
    exact hy (Int.zero_dvd.mp (hn _))
  have c0 : c ≠ 0 := by rcases hc with rfl | rfl <;> omega
  have cd : ∀ i, c ∣ co y i := fun i => by
    rcases hc with rfl | rfl
    · exact hn i
    · exact Int.neg_dvd.mpr (hn i)
  have e : ∀ i, co y i = c * co (y.map (·.fdiv c)) i := fun i => by
    rw [co_map (Int.zero_fdiv c)]
    obtain ⟨t, ht⟩ := cd i
    rw [ht, Int.mul_fdiv_cancel_left _ c0]
  refine ⟨c0, by simp, e, fun d b h => ?_⟩
  have h2 : ∀ i, i < y.length → d * c ∣ b * co y i := fun i _ => by
    rw [e i, Int.mul_left_comm, Int.mul_comm d c]
    exact Int.mul_dvd_mul_left c (h i)
  have h3 := (g.iff (d * c) b).mp h2
  have h4 : d * c ∣ b * c := by
    rcases hc with rfl | rfl
    · exact h3
    · rw [Int.mul_neg b]; exact Int.dvd_neg.mpr h3
  exact Int.dvd_of_mul_dvd_mul_right c0 h4
theorem Freed.small {y x : List Int} {c : Int} {b : Nat} (h : Freed y c x) (s : Small b y) : Small b x := fun i => by
  refine Nat.lt_of_le_of_lt ?_ (s i)
  rw [h.eq i, Int.natAbs_mul]
  have := h.nz
  exact Nat.le_mul_of_pos_left _ (by omega)
theorem Freed.lead_eq {y x : List Int} {c : Int} (h : Freed y c x) : lead y = c * lead x := by unfold lead; rw [h.len]; exact h.eq _
theorem gd_end {y : List Int} {k : Nat} {f f0 : Int} (g : Gd y k f0) (hn : 0 ≤ f) (h : ∀ d c : Int, (d ∣ c * f ∧ d ∣ c * (0 : Int)) ↔ (d ∣ c * f0 ∧ d ∣ c * ((co y k).natAbs : Int))) : Gd y (k + 1) f := by
  refine ⟨hn, fun d c => ?_⟩
  have h1 := h d c
  rw [Int.mul_zero] at h1
  constructor
  · intro hi
    exact (h1.mpr ⟨(g.iff d c).mp fun i hk => hi i (by omega), dvd_abs.mpr (hi k (by omega))⟩).1
  · intro hf i hi
    have h2 := h1.mp ⟨hf, Int.dvd_zero _⟩
    by_cases hk : i < k
    · exact (g.iff d c).mpr h2.1 i hk
    · rw [show i = k by omega]; exact dvd_abs.mp h2.2
def IsNorm (ds : List D) (o : OD) : Prop := ∀ y : List Int, ds = [iL y] → ∃ c x, o = oL x ∧ Freed y c x ∧ 0 < lead x
noncomputable abbrev v_lfreed : Fn := Val 4 w__law_freed IsNorm
theorem iL1 {x y : List Int} (h : [iL x] = [iL y]) : x = y := iL_inj.mp (by injection h)
theorem t_lfreed {y : List Int} (hy : lead y ≠ 0) (hl : y.length < 1000) : ∃ c x, v_lfreed [iL y] = some (oL x) ∧ Freed y c x ∧ 0 < lead x := by
  have hne : y ≠ [] := by rintro rfl; exact hy rfl
  have h : Can w__law_freed (start 4 [iL y]) (Fin (IsNorm [iL y])) := by
    unfold w__law_freed
    refine can_seq (can_asg (oE_closed (o := fI 0) rfl rfl) ?_)
    refine can_seq (can_for (ds := y.map .int) (by simp_arith []) (fun k g => ∃ (f : Int) (x z : Option OD), Gd y k f ∧ g = [some (.frz (iL y)), some (fI f), x, z]) ⟨0, _, _, gd_zero y, rfl⟩ (fun k d g hk hg => ?_) ?_)
    · obtain ⟨f, x, z, hf, rfl⟩ := hg
      rw [List.getElem?_map, Option.map_eq_some_iff] at hk
      obtain ⟨v, hv, rfl⟩ := hk
      have hkl : k < y.length := (List.getElem?_eq_some_iff.mp hv).1
      have hv' : v = co y k := by rw [co_lt hkl]; rw [List.getElem?_eq_getElem hkl] at hv; exact (Option.some.inj hv).symm
      refine ⟨_, rfl, ?_⟩
      refine can_seq (can_asg (oE_closed (o := fI (v.natAbs : Int)) (by simp_arith []) rfl) ?_)
      refine can_while (fun m g => ∃ f' o : Int, m = o.toNat ∧ 0 ≤ f' ∧ 0 ≤ o ∧ (∀ d c : Int, (d ∣ c * f' ∧ d ∣ c * o) ↔ (d ∣ c * f ∧ d ∣ c * (v.natAbs : Int))) ∧ g = [some (.frz (iL y)), some (fI f'), some (.frz (.int v)), some (fI o)]) ⟨f, (v.natAbs : Int), rfl, hf.nn, by omega, fun _ _ => Iff.rfl, rfl⟩ ?_
      rintro m g ⟨f', o, rfl, h1, h2, h3, rfl⟩
      refine ⟨decide (0 < o), by simp_arith [], fun ht => ?_, fun ht => ?_⟩
      · have ho : 0 < o := by simpa using ht
        refine can_unp (oE_closed (o := .tup [fI o, fI (f'.fmod o)]) (by simp_arith [show o ≠ 0 by omega]; rfl) rfl) (os := [fI o, fI (f'.fmod o)]) rfl ?_
        have m0 := fm0 f' ho
        have m1 := fm1 f' ho
        exact ⟨_, by omega, o, f'.fmod o, rfl, by omega, m0, fun d c => step_dvd.trans (h3 d c), rfl⟩
      · obtain rfl : o = 0 := by have : ¬ 0 < o := by simpa using ht
                                 omega
        exact ⟨f', _, _, gd_end hf h1 (by rw [← hv']; exact h3), rfl⟩
    · rintro g ⟨f, x, z, hf, rfl⟩
      rw [List.length_map] at hf
      have hz : lead y = y.getLast hne := (getLast_co hne).symm
      have fin : ∀ (c : Int) (u : Option OD), (c = f ∨ c = -f) → 0 < lead (y.map (·.fdiv c)) → c ≠ 0 → Can (sRet (oE [0, 1, 2] (eComp [2] (iLst (eVar 0)) (gName 2) tYes (eOp opFdiv (eVar 2) (eVar 1))))) [some (.frz (iL y)), some (fI c), x, u] (Fin (IsNorm [iL y])) := by
        intro c u hc hp h0
        refine can_ret (oE_closed (o := oL (y.map (·.fdiv c))) ?_ (closed_oL _)) fun y' he => ?_
        · rw [comp_ints (xs := y) (h := fun x => fI (x.fdiv c)) (by simp_arith []) (by unfold sz; omega) (fun _ _ => rfl) (fun v hv => by simp_arith [wipeE, h0])]
          unfold oL; rw [List.map_map]; rfl
        · obtain rfl := iL1 he
          exact ⟨c, _, rfl, freed_of hf hy hc, hp⟩
      have pos : ∀ c : Int, (c = f ∨ c = -f) → 0 < c * lead y → 0 < lead (y.map (·.fdiv c)) ∧ c ≠ 0 := fun c hc hp => by
        have F := freed_of hf hy hc
        have e := F.lead_eq
        rw [e, ← Int.mul_assoc, Int.mul_comm] at hp
        have := F.nz
        have : 0 < c * c := by
          rcases Int.lt_or_gt_of_ne this with q | q
          · exact Int.mul_pos_of_neg_of_neg q q
          · exact Int.mul_pos q q
        exact ⟨Int.pos_of_mul_pos_left hp this, F.nz⟩
      have f0 : 0 < f := by
        have := (freed_of hf hy (.inl rfl)).nz
        have := hf.nn
        omega
      refine can_seq (can_if (decide (lead y < 0)) (by simp_arith [opIdx_iL_last hne, hz]) (fun h => ?_) fun h => can_skip ?_)
      · have h : lead y < 0 := by simpa using h
        refine can_asg (oE_closed (o := fI (-f)) (by simp_arith []) rfl) ?_
        have := pos (-f) (.inr rfl) (Int.mul_pos_of_neg_of_neg (by omega) h)
        exact fin (-f) _ (.inr rfl) this.1 this.2
      · have h : ¬ lead y < 0 := by simpa using h
        have := pos f (.inl rfl) (Int.mul_pos f0 (by omega))
        exact fin f _ (.inl rfl) this.1 this.2
  obtain ⟨o, h1, h2⟩ := val_ex (R := IsNorm) h
  obtain ⟨c, x, rfl, h3⟩ := h2 y rfl
  exact ⟨c, x, h1, h3⟩
end Law
namespace Law
open Z PySem
local macro_rules
  | `(tactic| simp_arith [$as,*]) => `(tactic| simp (config := { decide := false }) only [Z.rd_nil, Z.rd_zero, Z.rd_succ, Z.erG_nil, Z.erG_cons, Z.er_frz, Z.er_lst, Z.er_tup, Z.er_fI, Z.er_fB, Z.closed_frz, Z.closed_lst, Z.closed_tup, Z.closed_fI, Z.closed_fB, Z.eVar_ev, Z.eVar_d, Z.eC_ev, Z.eC_d, Z.eOp_ev, Z.eOp_d, Z.eUn_ev, Z.eUn_d, Z.eds_nil, Z.eds_cons, Z.eods_nil, Z.eods_cons, Z.eCall_ev, Z.eCall_d, Z.eTup_ev, Z.eTup_d, Z.eLst_ev, Z.eLst_d, Z.tV_ev, Z.asB_bl, Z.tAnd_ev, Z.tOr_ev, Z.tNot_ev, Z.tYes_ev, Z.eIf_ev, Z.eIf_d, Z.eAnd_ev, Z.eAnd_d, Z.eOr_ev, Z.eOr_d, Z.eNot_ev, Z.eNot_d, Z.eCut_ev, Z.eCut_d, Z.eOpt_none, Z.eOpt_some, Z.asO_int, Z.opCut_lst, Z.asI_int, Z.asL_lst, Z.asT_tup, Z.iLst_ev, Z.iTup_ev, Z.iZip_ev, Z.iEnum_ev, Z.gName_ev, Z.opAdd_int, Z.opSub_int, Z.opMul_int, Z.opFdiv_int, Z.opMod_int, Z.opNeg_int, Z.opLt_int, Z.opLe_int, Z.opGt_int, Z.opGe_int, Z.okd_int, Z.okd_bl, Z.okd_non, Z.okd_lst, Z.okd_tup, Z.opEq_int, Z.opNe_int, Z.opIdx_lst, Z.opIdx_tup, Z.opIdx_scr, Z.er_oL, Z.closed_oL, Z.iL_inj, Z.okd_iL, Z.opEq_iL, Z.opNe_iL, Z.opNe_iL_nil, Z.opEq_iL_nil, Z.pLen_iL, Z.pList_iL, Z.asL_iL, Z.pAbs_int, List.set_cons_zero, List.set_cons_succ, List.map_cons, List.map_nil, List.length_cons, List.length_nil, Option.map_some, Option.map_none, Option.bind_some, Option.bind_none, if_true, if_false, ite_true, ite_false, reduceIte, Bool.false_eq_true, Bool.and_true, Bool.true_and, Bool.and_false, Bool.false_and, Bool.not_true, Bool.not_false, Bool.and_self, and_self, and_true, true_and, not_true_eq_false, not_false_eq_true, ne_eq, Int.reduceEq, Int.reduceNe, Int.reduceNeg, Int.reduceToNat, Int.reduceLT, Int.reduceLE, Nat.reduceAdd, Z.start, List.replicate, List.nil_append, List.cons_append, Nat.reduceSub, Nat.zero_add, eq_self, Option.some.injEq, List.all_cons, List.all_nil, List.append_nil, decide_true, decide_false, Bool.or_true, Bool.true_or, Bool.or_false, Bool.false_or, Z.opPow_ok, Z.natAbs_lit, Nat.reducePow, Nat.reduceLT, List.set_nil, List.replicate_succ, List.replicate_zero, $as,*])
/-- without zeros at the end -/
structure Trimmed (y x : List Int) : Prop where
  trim : Trim x
  eq : ∀ i, co x i = co y i
  len : x.length ≤ y.length
def IsTrim (ds : List D) (o : OD) : Prop := ∀ y : List Int, ds = [iL y] → ∃ x, o = oL x ∧ Trimmed y x
noncomputable abbrev v_ltrim : Fn := Val 1 w__law_trim IsTrim
theorem dropLast_co {x : List Int} (h : lead x = 0) (i : Nat) : co x.dropLast i = co x i := by
  rw [co_dropLast]
  split
  · rfl
  · rename_i hi
    by_cases e : i = x.length - 1
    · rw [e]; exact h.symm
    · rw [co_ge (by omega)]
theorem t_ltrim (y : List Int) : ∃ x, v_ltrim [iL y] = some (oL x) ∧ Trimmed y x := by
  have h : Can w__law_trim (start 1 [iL y]) (Fin (IsTrim [iL y])) := by
    unfold w__law_trim
    refine can_seq (can_asg (oE_closed (o := oL y) (by simp_arith []) (closed_oL _)) ?_)
    refine can_seq (can_while (fun m g => ∃ x : List Int, m = x.length ∧ x.length ≤ y.length ∧ (∀ i, co x i = co y i) ∧ g = [some (oL x)]) ⟨y, rfl, Nat.le_refl _, fun _ => rfl, rfl⟩ ?_)
    rintro m g ⟨x, rfl, hl, he, rfl⟩
    by_cases hx : x = []
    · subst hx
      refine ⟨false, by simp_arith [show (iL [] : D) = .lst [] from rfl, show opNe (.lst []) (.lst []) = some (fB false) from rfl], fun q => (nomatch q), fun _ => ?_⟩
      refine can_ret (r := oL []) rfl fun y' e => ?_
      obtain rfl := iL1 e
      exact ⟨[], rfl, fun q => (q rfl).elim, he, hl⟩
    · have hp := List.length_pos_iff.mpr hx
      have hz : lead x = x.getLast hx := (getLast_co hx).symm
      refine ⟨lead x == 0, by simp_arith [opIdx_iL_last hx, hz, show (x == []) = false from by simpa using hx], fun ht => ?_, fun ht => ?_⟩
      · have ht : lead x = 0 := by simpa using ht
        refine can_pop (lstAt_oL rfl) (by simpa using hx) ⟨_, ?_, x.dropLast, rfl, by simp; omega, fun i => by rw [dropLast_co ht, he], by unfold oL; rw [← List.map_dropLast]; rfl⟩
        simp; omega
      · have ht : lead x ≠ 0 := by simpa using ht
        refine can_ret (r := oL x) rfl fun y' e => ?_
        obtain rfl := iL1 e
        exact ⟨x, rfl, fun _ => ht, he, hl⟩
  obtain ⟨o, h1, h2⟩ := val_ex (R := IsTrim) h
  obtain ⟨x, rfl, h3⟩ := h2 y rfl
  exact ⟨x, h1, h3⟩
noncomputable abbrev v_trimmed : Fn := Val 2 w_trimmed IsTrim
theorem t_trimmed (y : List Int) : ∃ x, v_trimmed [iL y] = some (oL x) ∧ Trimmed y x := by
  have h : Can w_trimmed (start 2 [iL y]) (Fin (IsTrim [iL y])) := by
    unfold w_trimmed
    refine can_seq (can_asg (oE_closed (o := fI y.length) (by simp_arith []) rfl) ?_)
    refine can_seq (can_while (fun m g => m ≤ y.length ∧ (∀ i, m ≤ i → co y i = 0) ∧ g = [some (.frz (iL y)), some (fI m)]) ⟨Nat.le_refl _, fun i hi => co_ge hi, rfl⟩ ?_)
    rintro m g ⟨hm, hz, rfl⟩
    have fin : (m = 0 ∨ co y (m - 1) ≠ 0) → Can (sRet (oE [0, 1] (eCut (eVar 0) none (some (eVar 1))))) [some (.frz (iL y)), some (fI m)] (Fin (IsTrim [iL y])) := by
      intro hq
      refine can_ret (oE_closed (o := oL (y.take m)) (by simp_arith [opCut_iL, cut_to y m hm]) (closed_oL _)) fun y' e => ?_
      obtain rfl := iL1 e
      refine ⟨_, rfl, fun hne => ?_, fun i => ?_, by simp; omega⟩
      · unfold lead
        rw [co_take, List.length_take, Nat.min_eq_left hm]
        have : m ≠ 0 := by rintro rfl; exact hne rfl
        rw [if_pos (by omega)]
        exact hq.resolve_left this
      · rw [co_take]
        split
        · rfl
        · rw [hz i (by omega)]
    by_cases h0 : m = 0
    · subst h0
      exact ⟨false, by simp_arith []; rfl, fun q => (nomatch q), fun _ => fin (.inl rfl)⟩
    · have e : (m : Int) - 1 = ((m - 1 : Nat) : Int) := by omega
      have hl : m - 1 < y.length := by omega
      refine ⟨co y (m - 1) == 0, by simp_arith [e, opIdx_iL_nat (m - 1) rfl hl, co_lt hl, show (0 : Int) < m from by omega], fun ht => ?_, fun ht => fin (.inr (by simpa using ht))⟩
      have ht : co y (m - 1) = 0 := by simpa using ht
      refine can_aug (x := m) (y := 1) (r := ((m - 1 : Nat) : Int)) (by simp_arith []) (by simp_arith []) (by simp_arith [e]) ⟨m - 1, by omega, by omega, fun i hi => ?_, rfl⟩
      by_cases hi' : i = m - 1
      · rw [hi', ht]
      · exact hz i (by omega)
  obtain ⟨o, h1, h2⟩ := val_ex (R := IsTrim) h
  obtain ⟨x, rfl, h3⟩ := h2 y rfl
  exact ⟨x, h1, h3⟩
def IsGd (ds : List D) (o : OD) : Prop := ∀ y : List Int, ds = [iL y] → ∃ f, o = fI f ∧ Gd y y.length f
noncomputable abbrev v_gcd : Fn := Val 4 w_common_divisor IsGd
theorem t_gcd (y : List Int) : ∃ f, v_gcd [iL y] = some (fI f) ∧ Gd y y.length f := by
  have h : Can w_common_divisor (start 4 [iL y]) (Fin (IsGd [iL y])) := by
    unfold w_common_divisor
    refine can_seq (can_asg (oE_closed (o := fI 0) rfl rfl) ?_)
    refine can_seq (can_for (ds := y.map .int) (by simp_arith []) (fun k g => ∃ (f : Int) (x z : Option OD), Gd y k f ∧ g = [some (.frz (iL y)), some (fI f), x, z]) ⟨0, _, _, gd_zero y, rfl⟩ (fun k d g hk hg => ?_) ?_)
    · obtain ⟨f, x, z, hf, rfl⟩ := hg
      rw [List.getElem?_map, Option.map_eq_some_iff] at hk
      obtain ⟨v, hv, rfl⟩ := hk
      have hkl : k < y.length := (List.getElem?_eq_some_iff.mp hv).1
      have hv' : v = co y k := by rw [co_lt hkl]; rw [List.getElem?_eq_getElem hkl] at hv; exact (Option.some.inj hv).symm
      refine ⟨_, rfl, ?_⟩
      refine can_seq (can_asg (oE_closed (o := fI (v.natAbs : Int)) (by simp_arith []) rfl) ?_)
      refine can_while (fun m g => ∃ f' o : Int, m = o.toNat ∧ 0 ≤ f' ∧ 0 ≤ o ∧ (∀ d c : Int, (d ∣ c * f' ∧ d ∣ c * o) ↔ (d ∣ c * f ∧ d ∣ c * (v.natAbs : Int))) ∧ g = [some (.frz (iL y)), some (fI f'), some (.frz (.int v)), some (fI o)]) ⟨f, (v.natAbs : Int), rfl, hf.nn, by omega, fun _ _ => Iff.rfl, rfl⟩ ?_
      rintro m g ⟨f', o, rfl, h1, h2, h3, rfl⟩
      refine ⟨decide (0 < o), by simp_arith [], fun ht => ?_, fun ht => ?_⟩
      · have ho : 0 < o := by simpa using ht
        refine can_par (rs := [fI o, fI (f'.fmod o)]) (g' := [some (.frz (iL y)), some (fI f'), some (.frz (.int v)), some (fI o)]) ?_ rfl ?_
        · have a1 : oE [3] (eVar 3) [some (.frz (iL y)), some (fI f'), some (.frz (.int v)), some (fI o)] = some (fI o, [some (.frz (iL y)), some (fI f'), some (.frz (.int v)), some (fI o)]) := rfl
          have a2 : oE [1, 3] (eOp opMod (eVar 1) (eVar 3)) [some (.frz (iL y)), some (fI f'), some (.frz (.int v)), some (fI o)] = some (fI (f'.fmod o), [some (.frz (iL y)), some (fI f'), some (.frz (.int v)), some (fI o)]) := oE_closed (by simp_arith [show o ≠ 0 by omega]) rfl
          simp only [oList, a1, a2, Option.bind_some]
        have m0 := fm0 f' ho
        have m1 := fm1 f' ho
        exact ⟨_, by omega, o, f'.fmod o, rfl, by omega, m0, fun d c => step_dvd.trans (h3 d c), rfl⟩
      · obtain rfl : o = 0 := by have : ¬ 0 < o := by simpa using ht
                                 omega
        exact ⟨f', _, _, gd_end hf h1 (by rw [← hv']; exact h3), rfl⟩
    · rintro g ⟨f, x, z, hf, rfl⟩
      rw [List.length_map] at hf
      refine can_ret (r := fI f) rfl fun y' e => ?_
      obtain rfl := iL1 e
      exact ⟨f, rfl, hf⟩
  obtain ⟨o, h1, h2⟩ := val_ex (R := IsGd) h
  obtain ⟨x, rfl, h3⟩ := h2 y rfl
  exact ⟨x, h1, h3⟩
def IsFreed (ds : List D) (o : OD) : Prop := ∀ y : List Int, ds = [iL y] → ∃ c x, o = oL x ∧ Freed y c x ∧ 0 < c
noncomputable abbrev v_freed : Fn := Val 3 (w_freed v_gcd) IsFreed
theorem t_freed {y : List Int} (hy : lead y ≠ 0) (hl : y.length < 1000) : ∃ c x, v_freed [iL y] = some (oL x) ∧ Freed y c x ∧ 0 < c := by
  have h : Can (w_freed v_gcd) (start 3 [iL y]) (Fin (IsFreed [iL y])) := by
    unfold w_freed
    obtain ⟨f, h1, h2⟩ := t_gcd y
    have F := freed_of h2 hy (.inl rfl)
    refine can_seq (can_asg (oE_closed (o := fI f) (by simp_arith [h1]) rfl) ?_)
    refine can_ret (oE_closed (o := oL (y.map (·.fdiv f))) ?_ (closed_oL _)) fun y' he => ?_
    · rw [comp_ints (xs := y) (h := fun x => fI (x.fdiv f)) (by simp_arith []) (by unfold sz; omega) (fun _ _ => rfl) (fun v hv => by simp_arith [wipeE, F.nz])]
      unfold oL; rw [List.map_map]; rfl
    · obtain rfl := iL1 he
      exact ⟨f, _, rfl, F, by have := F.nz; have := h2.nn; omega⟩
  obtain ⟨o, h1, h2⟩ := val_ex (R := IsFreed) h
  obtain ⟨c, x, rfl, h3⟩ := h2 y rfl
  exact ⟨c, x, h1, h3⟩
end Law
namespace Law
open Z PySem
local macro_rules
  | `(tactic| simp_arith [$as,*]) => `(tactic| simp (config := { decide := false }) only [Z.rd_nil, Z.rd_zero, Z.rd_succ, Z.erG_nil, Z.erG_cons, Z.er_frz, Z.er_lst, Z.er_tup, Z.er_fI, Z.er_fB, Z.closed_frz, Z.closed_lst, Z.closed_tup, Z.closed_fI, Z.closed_fB, Z.eVar_ev, Z.eVar_d, Z.eC_ev, Z.eC_d, Z.eOp_ev, Z.eOp_d, Z.eUn_ev, Z.eUn_d, Z.eds_nil, Z.eds_cons, Z.eods_nil, Z.eods_cons, Z.eCall_ev, Z.eCall_d, Z.eTup_ev, Z.eTup_d, Z.eLst_ev, Z.eLst_d, Z.tV_ev, Z.asB_bl, Z.tAnd_ev, Z.tOr_ev, Z.tNot_ev, Z.tYes_ev, Z.eIf_ev, Z.eIf_d, Z.eAnd_ev, Z.eAnd_d, Z.eOr_ev, Z.eOr_d, Z.eNot_ev, Z.eNot_d, Z.eCut_ev, Z.eCut_d, Z.eOpt_none, Z.eOpt_some, Z.asO_int, Z.opCut_lst, Z.asI_int, Z.asL_lst, Z.asT_tup, Z.iLst_ev, Z.iTup_ev, Z.iZip_ev, Z.iEnum_ev, Z.gName_ev, Z.opAdd_int, Z.opSub_int, Z.opMul_int, Z.opFdiv_int, Z.opMod_int, Z.opNeg_int, Z.opLt_int, Z.opLe_int, Z.opGt_int, Z.opGe_int, Z.okd_int, Z.okd_bl, Z.okd_non, Z.okd_lst, Z.okd_tup, Z.opEq_int, Z.opNe_int, Z.opIdx_lst, Z.opIdx_tup, Z.opIdx_scr, Z.er_oL, Z.closed_oL, Z.iL_inj, Z.okd_iL, Z.opEq_iL, Z.opNe_iL, Z.opNe_iL_nil, Z.opEq_iL_nil, Z.pLen_iL, Z.pList_iL, Z.asL_iL, Z.pAbs_int, List.set_cons_zero, List.set_cons_succ, List.map_cons, List.map_nil, List.length_cons, List.length_nil, Option.map_some, Option.map_none, Option.bind_some, Option.bind_none, if_true, if_false, ite_true, ite_false, reduceIte, Bool.false_eq_true, Bool.and_true, Bool.true_and, Bool.and_false, Bool.false_and, Bool.not_true, Bool.not_false, Bool.and_self, and_self, and_true, true_and, not_true_eq_false, not_false_eq_true, ne_eq, Int.reduceEq, Int.reduceNe, Int.reduceNeg, Int.reduceToNat, Int.reduceLT, Int.reduceLE, Nat.reduceAdd, Z.start, List.replicate, List.nil_append, List.cons_append, Nat.reduceSub, Nat.zero_add, eq_self, Option.some.injEq, List.all_cons, List.all_nil, List.append_nil, decide_true, decide_false, Bool.or_true, Bool.true_or, Bool.or_false, Bool.false_or, Z.opPow_ok, Z.natAbs_lit, Nat.reducePow, Nat.reduceLT, List.set_nil, List.replicate_succ, List.replicate_zero, $as,*])
/-- a remainder of p by q -/
structure Rem (p q : List Int) (b : Nat) (r : List Int) : Prop where
  trim : Trim r
  len : r.length < q.length
  mak : J (co p) (co q) (co r)
  un : J (co q) (co r) (co p)
  bound : ∃ (l : Int) (z : Nat → Int), l ≠ 0 ∧ (∀ i, co r i = l * z i) ∧ ∀ i, (z i).natAbs < 2 ^ b
theorem natAbs_sub_lt {x y : Int} {a : Nat} (h1 : x.natAbs < 2 ^ a) (h2 : y.natAbs < 2 ^ a) : (x - y).natAbs < 2 ^ (a + 1) := by
  rw [Nat.pow_succ]
  have := Int.natAbs_sub_le x y
  omega
theorem pow_up {x a b : Nat} (h : x < 2 ^ a) (k : a ≤ b) : x < 2 ^ b := Nat.lt_of_lt_of_le h (Nat.pow_le_pow_right (by decide) k)
/-- one round of a division: what is left of r -/
def rnd (l f : Int) (s : Nat) (q r : List Int) (i : Nat) : Int := l * co r i - f * (if s ≤ i then co q (i - s) else 0)
theorem rnd_small {l f : Int} {s a b : Nat} {q r : List Int} (h1 : ∀ i, (l * co r i).natAbs < 2 ^ a) (h2 : ∀ i, (f * co q i).natAbs < 2 ^ a) (hb : a + 1 ≤ b) (i : Nat) : (rnd l f s q r i).natAbs < 2 ^ b := by
  refine pow_up (natAbs_sub_lt (h1 i) ?_) hb
  split
  · exact h2 _
  · rw [Int.mul_zero]; exact Nat.pow_pos (by decide)
/-- the list that a round leaves before its last is dropped -/
def Round (l f : Int) (s : Nat) (q r : List Int) (k : Nat) (u : List Int) : Prop := u.length = r.length ∧ ∀ i, co u i = l * co r i - if s ≤ i ∧ i < s + k then f * co q (i - s) else 0
theorem round_start {l f : Int} {s : Nat} {q r u : List Int} (hl : u.length = r.length) (h : ∀ i, co u i = l * co r i) : Round l f s q r 0 u := ⟨hl, fun i => by rw [h, if_neg (by omega)]; omega⟩
theorem round_step {l f : Int} {s k : Nat} {q r u : List Int} (h : Round l f s q r k u) (hk : s + k < r.length) : Round l f s q r (k + 1) (u.set (s + k) (co u (s + k) - f * co q k)) := by
  refine ⟨by rw [List.length_set]; exact h.1, fun i => ?_⟩
  rw [co_set _ (by rw [h.1]; exact hk)]
  by_cases hi : i = s + k
  · subst hi
    rw [if_pos rfl, h.2, if_neg (by omega), if_pos (by omega), Nat.add_sub_cancel_left]
    omega
  · rw [if_neg hi, h.2]
    by_cases h1 : s ≤ i ∧ i < s + k
    · rw [if_pos h1, if_pos (by omega)]
    · rw [if_neg h1, if_neg (by omega)]
theorem round_end {l f : Int} {s : Nat} {q r u : List Int} (h : Round l f s q r q.length u) (i : Nat) : co u i = rnd l f s q r i := by
  rw [h.2]
  unfold rnd
  by_cases h1 : s ≤ i
  · rw [if_pos h1]
    by_cases h2 : i < s + q.length
    · rw [if_pos ⟨h1, h2⟩]
    · rw [if_neg (fun z => h2 z.2), co_ge (xs := q) (by omega), Int.mul_zero]
  · rw [if_neg (fun z => h1 z.1), if_neg h1, Int.mul_zero]
theorem round_drop {l f : Int} {q r u : List Int} (hq : q ≠ []) (hqr : q.length ≤ r.length) (h : Round l f (r.length - q.length) q r q.length u) (hz : l * lead r = f * lead q) : u.dropLast.length = r.length - 1 ∧ ∀ i, co u.dropLast i = rnd l f (r.length - q.length) q r i := by
  have hp := List.length_pos_iff.mpr hq
  refine ⟨by rw [List.length_dropLast, h.1], fun i => ?_⟩
  rw [dropLast_co, round_end h]
  unfold lead at hz ⊢
  rw [h.1, round_end h]
  unfold rnd
  rw [if_pos (by omega), hz, show r.length - 1 - (r.length - q.length) = q.length - 1 by omega]
  omega
/-- a division going on: what is left of p after some rounds -/
structure Left (p q r : List Int) : Prop where
  len : r.length ≤ p.length
  low : p.length < q.length → r = p
  low2 : q.length ≤ p.length → q.length ≤ r.length + 1
  mak : J (co p) (co q) (co r)
  un : J (co q) (co r) (co p)
theorem left_start (p q : List Int) : Left p q p := ⟨Nat.le_refl _, fun _ => rfl, fun h => by omega, .fst, .snd⟩
theorem left_next {p q r v : List Int} {l f : Int} {s : Nat} (h : Left p q r) (hqr : q.length ≤ r.length) (hl : l ≠ 0) (hv : v.length = r.length - 1) (e : ∀ i, co v i = rnd l f s q r i) : Left p q v :=
  ⟨by have := h.len; omega, fun hh => by have := h.len; omega, fun _ => by omega, h.mak.rem e, J.unrem hl e h.un⟩
theorem rem_of {p q r x : List Int} {b : Nat} (h : Left p q r) (hq : r.length < q.length) (t : Trimmed r x) (hb : ∃ (l : Int) (z : Nat → Int), l ≠ 0 ∧ (∀ i, co r i = l * z i) ∧ ∀ i, (z i).natAbs < 2 ^ b) : Rem p q b x := by
  have e : co x = co r := funext t.eq
  refine ⟨t.trim, by have := t.len; omega, ?_, ?_, ?_⟩
  · rw [e]; exact h.mak
  · rw [e]; exact h.un
  · rw [e]; exact hb
/-- what a division may be asked of -/
structure Fit (p q : List Int) (bf bs : Nat) : Prop where
  pl : p.length < 100
  ql : q.length < 100
  q0 : q ≠ []
  ql0 : lead q ≠ 0
  sp : Small bf p
  sq : Small bs q
  pos : 0 < bf ∧ 0 < bs
  lim : bf + (p.length + 2 - q.length) * (2 * bs + 1) ≤ 134200000
def mx (xs : List Int) : Nat := xs.foldr (fun x m => max x.natAbs m) 0
def bts (xs : List Int) : Nat := (mx xs).log2 + 1
theorem mx_ge : ∀ (xs : List Int) (i : Nat), (co xs i).natAbs ≤ mx xs
  | [], i => by simp [co, mx]
  | x :: xs, 0 => by simp only [mx, List.foldr_cons]; exact Nat.le_max_left _ _
  | x :: xs, i + 1 => Nat.le_trans (mx_ge xs i) (by simp only [mx, List.foldr_cons]; exact Nat.le_max_right _ _)
theorem mx_lt {n : Nat} (h0 : 0 < n) : ∀ xs : List Int, (∀ i, (co xs i).natAbs < n) → mx xs < n
  | [], _ => h0
  | x :: xs, h => by
    simp only [mx, List.foldr_cons]
    exact Nat.max_lt.mpr ⟨h 0, mx_lt h0 xs fun i => h (i + 1)⟩
theorem bts_small (xs : List Int) : Small (bts xs) xs := fun i => Nat.lt_of_le_of_lt (mx_ge xs i) Nat.lt_log2_self
theorem bts_le {xs : List Int} {b : Nat} (h : Small b xs) (hb : 0 < b) : bts xs ≤ b := log2_lt hb (mx_lt (Nat.pow_pos (by decide)) xs h)
def rb (p q : List Int) (bf bs : Nat) : Nat := bf + (p.length + 1 - q.length) * (bs + 1)
def IsParted (ds : List D) (o : OD) : Prop := ∀ (p q : List Int), ds = [iL p, iL q] → Fit p q (bts p) (bts q) → ∃ r t, o = .tup [oL r, oL t] ∧ Rem p q (rb p q (bts p) (bts q)) r
noncomputable abbrev v_parted : Fn := Val 9 (w_parted v_trimmed) IsParted
theorem iL2 {a b a' b' : List Int} (h : [iL a, iL b] = [iL a', iL b']) : a = a' ∧ b = b' := by
  injection h with x y
  injection y with y _
  exact ⟨iL_inj.mp x, iL_inj.mp y⟩
theorem small_abs {x : Int} {b : Nat} (h : x.natAbs < 2 ^ b) : ((x.natAbs : Int)).natAbs < 2 ^ b := by rwa [Int.natAbs_natCast]
theorem lead_small {xs : List Int} {b : Nat} (h : Small b xs) : (lead xs).natAbs < 2 ^ b := h _
theorem small_snoc {b : Nat} {xs : List Int} {a : Int} (h : Small b xs) (ha : a.natAbs < 2 ^ b) : Small b (xs ++ [a]) := h.snoc ha
theorem bits_le {bf bs n m : Nat} (h : bf + n * (2 * bs + 1) ≤ 134200000) (hm : m + 1 ≤ n) : bf + m * (bs + 1) + bs ≤ 134200000 ∧ bf + m * (2 * bs + 1) + 2 * bs ≤ 134200000 := by
  have h1 : (m + 1) * (2 * bs + 1) ≤ n * (2 * bs + 1) := Nat.mul_le_mul_right _ hm
  have h2 : m * (bs + 1) ≤ m * (2 * bs + 1) := Nat.mul_le_mul_left _ (by omega)
  rw [Nat.add_mul, Nat.one_mul] at h1
  omega
theorem step_mul (a j b : Nat) : a + (j + 1) * b = a + j * b + b := by rw [Nat.add_mul, Nat.one_mul]; omega
theorem abs_sign {x y : Int} : (x.natAbs : Int) * y = (if x < 0 then -y else y) * x := by
  split
  · rw [show (x.natAbs : Int) = -x by omega, Int.neg_mul, Int.neg_mul, Int.mul_comm]
  · rw [show (x.natAbs : Int) = x by omega, Int.mul_comm]
theorem t_parted_can {p q : List Int} {bf bs : Nat} (F : Fit p q bf bs) : Can (w_parted v_trimmed) (start 9 [iL p, iL q]) (Fin fun o => ∃ r t, o = .tup [oL r, oL t] ∧ Rem p q (bf + (p.length + 1 - q.length) * (bs + 1)) r) := by
  unfold w_parted
  have hq := List.length_pos_iff.mpr F.q0
  have pl := F.pl
  have ql := F.ql
  have hz : lead q = q.getLast F.q0 := (getLast_co F.q0).symm
  refine can_seq (can_asg (oE_closed (o := oL p) (by simp_arith []) (closed_oL _)) ?_)
  refine can_seq (can_asg (oE_closed (o := oL []) rfl rfl) ?_)
  refine can_seq (can_asg (oE_closed (o := fI ((lead q).natAbs : Int)) (by simp_arith [opIdx_iL_last F.q0, hz]) rfl) ?_)
  generalize hL : ((lead q).natAbs : Int) = L
  have L0 : L ≠ 0 := by have := F.ql0; omega
  have Ls : L.natAbs < 2 ^ bs := by rw [← hL]; exact small_abs (lead_small F.sq)
  refine can_seq (can_while (fun m g => ∃ (r t : List Int) (a b c d : Option OD), m = r.length ∧ Left p q r ∧ Small (bf + (p.length - r.length) * (bs + 1)) r ∧ t.length < 200 - r.length ∧ Small (bf + (p.length - r.length) * (bs + 1)) t ∧ g = [some (.frz (iL p)), some (.frz (iL q)), some (oL r), some (oL t), some (fI L), a, b, c, d])
    ⟨p, [], _, _, _, _, rfl, left_start p q, F.sp.mono (Nat.le_add_right _ _), by simp; omega, fun i => by rw [co_ge (by simp)]; exact Nat.pow_pos (by decide), rfl⟩ ?_)
  rintro m g ⟨r, t, a, b, c, d, rfl, hl, hs, htl, ht, rfl⟩
  have hrl := hl.len
  refine ⟨decide ((q.length : Int) ≤ r.length), by simp_arith [], fun h => ?_, fun h => ?_⟩
  · have h : q.length ≤ r.length := by simpa using h
    have hr : r ≠ [] := List.length_pos_iff.mp (by omega)
    have hrz : lead r = r.getLast hr := (getLast_co hr).symm
    have lim := bits_le F.lim (m := p.length - r.length) (by omega)
    have stp : bf + (p.length - r.length + 1) * (bs + 1) = bf + (p.length - r.length) * (bs + 1) + (bs + 1) := step_mul _ _ _
    generalize hB : bf + (p.length - r.length) * (bs + 1) = B at *
    have B0 : 0 < B := by have := F.pos; omega
    refine can_seq (can_asg (oE_closed (o := fI (lead r)) (by simp_arith [opIdx_iL_last hr, hrz]) rfl) ?_)
    generalize hf : (if lead q < 0 then -lead r else lead r) = f
    have fs : f.natAbs < 2 ^ B := by
      have := lead_small hs
      rw [← hf]; split <;> omega
    have hbal : L * lead r = f * lead q := by rw [← hL, ← hf]; exact abs_sign
    have rest : ∀ b c d : Option OD, Can (sSeq (sAsg 3 (oE [3, 4, 5, 8] (eOp opAdd (eComp [8] (Z.iLst (eVar 3)) (Z.gName 8) Z.tYes (eOp opMul (eVar 8) (eVar 4))) (eLst [(eVar 5)])))) (sSeq (sAsg 6 (oE [1, 2] (eOp opSub (eCall pLen [(eVar 2)]) (eCall pLen [(eVar 1)])))) (sSeq (sAsg 2 (oE [2, 4, 8] (eComp [8] (Z.iLst (eVar 2)) (Z.gName 8) Z.tYes (eOp opMul (eVar 8) (eVar 4))))) (sSeq (sForR (rRng1 (eCall pLen [(eVar 1)])) 7 (sAugSet 2 (eOp opAdd (eVar 6) (eVar 7)) opSub (eOp opMul (eVar 5) (eOp opIdx (eVar 1) (eVar 7))))) (sPop 2)))))
        [some (.frz (iL p)), some (.frz (iL q)), some (oL r), some (oL t), some (fI L), some (fI f), b, c, d] (Nx fun g => ∃ (v u : List Int) (b c d : Option OD), v.length = r.length - 1 ∧ (∀ i, co v i = rnd L f (r.length - q.length) q r i) ∧ u.length = t.length + 1 ∧ Small (B + (bs + 1)) u ∧ g = [some (.frz (iL p)), some (.frz (iL q)), some (oL v), some (oL u), some (fI L), some (fI f), b, c, d]) := by
      intro b c d
      have mulL : ∀ x : Int, x.natAbs < 2 ^ B → mulOk x L = true := fun x hx => mulOk_of B bs hx Ls B0 F.pos.2 (by omega)
      refine can_seq (can_asg (oE_closed (o := oL (t.map (· * L) ++ [f])) ?_ (closed_oL _)) ?_)
      · have e1 : eComp [8] (Z.iLst (eVar 3)) (Z.gName 8) Z.tYes (eOp opMul (eVar 8) (eVar 4)) (erG [some (.frz (iL p)), some (.frz (iL q)), some (oL r), some (oL t), some (fI L), some (fI f), b, c, d]) = some (oL (t.map (· * L))) := by
          rw [comp_ints (xs := t) (h := fun x => fI (x * L)) (by simp_arith []) (by unfold sz; omega) (fun _ _ => rfl) (fun x hx => ?_)]
          · unfold oL; rw [List.map_map]; rfl
          · obtain ⟨i, rfl⟩ := co_mem hx
            simp_arith [wipeE, mulL _ (ht i)]
        rw [eOp_ev, Z.EX.d_of e1]
        simp_arith []
        exact opAdd_iL (ys := [f]) (by simp; unfold sz; omega)
      refine can_seq (can_asg (oE_closed (o := fI ((r.length - q.length : Nat) : Int)) (by simp_arith [show (r.length : Int) - q.length = ((r.length - q.length : Nat) : Int) by omega]) rfl) ?_)
      refine can_seq (can_asg (oE_closed (o := oL (r.map (· * L))) ?_ (closed_oL _)) ?_)
      · rw [comp_ints (xs := r) (h := fun x => fI (x * L)) (by simp_arith []) (by unfold sz; omega) (fun _ _ => rfl) (fun x hx => ?_)]
        · unfold oL; rw [List.map_map]; rfl
        · obtain ⟨i, rfl⟩ := co_mem hx
          simp_arith [wipeE, mulL _ (hs i)]
      refine can_seq (can_for0 (n := q.length) (rng1_ok (by simp_arith []) (by omega)) (fun k g => ∃ (u : List Int) (c : Option OD), Round L f (r.length - q.length) q r k u ∧ g = [some (.frz (iL p)), some (.frz (iL q)), some (oL u), some (oL (t.map (· * L) ++ [f])), some (fI L), some (fI f), some (fI ((r.length - q.length : Nat) : Int)), c, d]) ⟨_, _, round_start (by simp) (fun i => by rw [co_map (Int.zero_mul L), Int.mul_comm]), rfl⟩ (fun k g hk hg => ?_) ?_)
      · obtain ⟨u, c, hu, rfl⟩ := hg
        have hul := hu.1
        have hk' : r.length - q.length + k < u.length := by omega
        have q1 : mulOk f (co q k) = true := mulOk_of B bs fs (F.sq k) B0 F.pos.2 (by omega)
        refine can_augIx (j := ((r.length - q.length + k : Nat) : Int)) (n := r.length - q.length + k) (x := co u (r.length - q.length + k)) (y := f * co q k) (r := co u (r.length - q.length + k) - f * co q k) ?_ (lstAt_oL rfl) ?_ ?_ ?_ rfl ?_
        · simp_arith [Int.natCast_add]
        · unfold place; rw [if_pos (by omega), if_pos (by rw [List.length_map]; omega), Int.toNat_natCast]
        · rw [List.getElem?_map, List.getElem?_eq_getElem hk', co_lt hk']; rfl
        · simp_arith [iL_get hk, q1]
        · exact ⟨_, some (fI k), round_step hu (by omega), by unfold oL; rw [List.map_set]; rfl⟩
      · rintro g ⟨u, c, hu, rfl⟩
        have hul := hu.1
        have hd := round_drop F.q0 h hu hbal
        refine can_pop (lstAt_oL rfl) (by have : u ≠ [] := List.length_pos_iff.mp (by omega)
                                          simpa using this) ⟨u.dropLast, t.map (· * L) ++ [f], _, c, d, hd.1, hd.2, by simp, ?_, by unfold oL; rw [← List.map_dropLast]; rfl⟩
        refine small_snoc (fun i => ?_) (pow_up fs (by omega))
        rw [co_map (Int.zero_mul L)]
        exact pow_up (natAbs_mul_lt (ht i) Ls) (by omega)
    have fin : ∀ g, (∃ (v u : List Int) (b c d : Option OD), v.length = r.length - 1 ∧ (∀ i, co v i = rnd L f (r.length - q.length) q r i) ∧ u.length = t.length + 1 ∧ Small (B + (bs + 1)) u ∧ g = [some (.frz (iL p)), some (.frz (iL q)), some (oL v), some (oL u), some (fI L), some (fI f), b, c, d]) → ∃ m', m' < r.length ∧ ∃ (r t : List Int) (a b c d : Option OD), m' = r.length ∧ Left p q r ∧ Small (bf + (p.length - r.length) * (bs + 1)) r ∧ t.length < 200 - r.length ∧ Small (bf + (p.length - r.length) * (bs + 1)) t ∧ g = [some (.frz (iL p)), some (.frz (iL q)), some (oL r), some (oL t), some (fI L), a, b, c, d] := by
      rintro g ⟨v, u, b, c, d, v1, v2, u1, u2, rfl⟩
      have e : bf + (p.length - v.length) * (bs + 1) = B + (bs + 1) := by rw [v1, show p.length - (r.length - 1) = p.length - r.length + 1 by omega, stp]
      refine ⟨_, ?_, v, u, _, _, _, _, rfl, left_next hl h L0 v1 v2, ?_, by omega, ?_, rfl⟩
      · omega
      · rw [e]
        intro i
        rw [v2]
        exact rnd_small (a := B + bs) (fun i => by rw [Int.mul_comm]; exact natAbs_mul_lt (hs i) Ls) (fun i => natAbs_mul_lt fs (F.sq i)) (by omega) i
      · rw [e]; exact u2
    refine can_seq (can_if (decide (lead q < 0)) (by simp_arith [opIdx_iL_last F.q0, hz]) (fun hn => ?_) fun hn => can_skip ?_)
    · have hn : lead q < 0 := by simpa using hn
      rw [if_pos hn] at hf
      refine can_asg (oE_closed (o := fI f) (by simp_arith [hf]) rfl) ?_
      exact (rest b c d).nx fin
    · have hn : ¬ lead q < 0 := by simpa using hn
      rw [if_neg hn] at hf
      subst hf
      exact (rest b c d).nx fin
  · have h : ¬ q.length ≤ r.length := by simpa using h
    obtain ⟨x, hx, hxt⟩ := t_trimmed r
    refine can_ret (oE_closed (o := .tup [oL x, oL t.reverse]) ?_ (by simp_arith [])) ⟨x, t.reverse, rfl, rem_of hl (by omega) hxt ⟨1, co r, by decide, fun i => by rw [Int.one_mul], fun i => pow_up (hs i) ?_⟩⟩
    · unfold eRev
      simp_arith [hx, opRev_iL]
    · have : p.length - r.length ≤ p.length + 1 - q.length := by
        by_cases hpq : p.length < q.length
        · rw [hl.low hpq]; omega
        · have := hl.low2 (by omega); omega
      have := Nat.mul_le_mul_right (bs + 1) this
      omega
theorem Fit.min {p q : List Int} {bf bs : Nat} (F : Fit p q bf bs) : Fit p q (bts p) (bts q) := by
  have h1 := bts_le F.sp F.pos.1
  have h2 := bts_le F.sq F.pos.2
  refine ⟨F.pl, F.ql, F.q0, F.ql0, bts_small p, bts_small q, ⟨Nat.succ_pos _, Nat.succ_pos _⟩, ?_⟩
  have := Nat.mul_le_mul_left (p.length + 2 - q.length) (show 2 * bts q + 1 ≤ 2 * bs + 1 by omega)
  have := F.lim
  omega
theorem Rem.up {p q r : List Int} {a b : Nat} (h : Rem p q a r) (k : a ≤ b) : Rem p q b r := by
  obtain ⟨l, z, h1, h2, h3⟩ := h.bound
  exact ⟨h.trim, h.len, h.mak, h.un, l, z, h1, h2, fun i => pow_up (h3 i) k⟩
theorem rb_le {p q : List Int} {bf bs bf' bs' : Nat} (h1 : bf ≤ bf') (h2 : bs ≤ bs') : rb p q bf bs ≤ rb p q bf' bs' := Nat.add_le_add h1 (Nat.mul_le_mul_left _ (by omega))
theorem t_parted {p q : List Int} {bf bs : Nat} (F : Fit p q bf bs) : ∃ r t, v_parted [iL p, iL q] = some (.tup [oL r, oL t]) ∧ Rem p q (rb p q bf bs) r := by
  have h : Can (w_parted v_trimmed) (start 9 [iL p, iL q]) (Fin (IsParted [iL p, iL q])) := (t_parted_can F.min).imp fun r hr => by
    cases r with
    | rt o =>
      intro p' q' e _
      obtain ⟨rfl, rfl⟩ := iL2 e
      exact hr
    | nx g => obtain ⟨_, _, e, _⟩ := hr; cases e
    | _ => exact hr
  obtain ⟨o, h1, h2⟩ := val_ex (R := IsParted) h
  obtain ⟨r, t, rfl, h3⟩ := h2 p q rfl F.min
  exact ⟨r, t, h1, h3.up (rb_le (bts_le F.sp F.pos.1) (bts_le F.sq F.pos.2))⟩
end Law
namespace Law
open Z PySem
local macro_rules
  | `(tactic| simp_arith [$as,*]) => `(tactic| simp (config := { decide := false }) only [Z.rd_nil, Z.rd_zero, Z.rd_succ, Z.erG_nil, Z.erG_cons, Z.er_frz, Z.er_lst, Z.er_tup, Z.er_fI, Z.er_fB, Z.closed_frz, Z.closed_lst, Z.closed_tup, Z.closed_fI, Z.closed_fB, Z.eVar_ev, Z.eVar_d, Z.eC_ev, Z.eC_d, Z.eOp_ev, Z.eOp_d, Z.eUn_ev, Z.eUn_d, Z.eds_nil, Z.eds_cons, Z.eods_nil, Z.eods_cons, Z.eCall_ev, Z.eCall_d, Z.eTup_ev, Z.eTup_d, Z.eLst_ev, Z.eLst_d, Z.tV_ev, Z.asB_bl, Z.tAnd_ev, Z.tOr_ev, Z.tNot_ev, Z.tYes_ev, Z.eIf_ev, Z.eIf_d, Z.eAnd_ev, Z.eAnd_d, Z.eOr_ev, Z.eOr_d, Z.eNot_ev, Z.eNot_d, Z.eCut_ev, Z.eCut_d, Z.eOpt_none, Z.eOpt_some, Z.asO_int, Z.opCut_lst, Z.asI_int, Z.asL_lst, Z.asT_tup, Z.iLst_ev, Z.iTup_ev, Z.iZip_ev, Z.iEnum_ev, Z.gName_ev, Z.opAdd_int, Z.opSub_int, Z.opMul_int, Z.opFdiv_int, Z.opMod_int, Z.opNeg_int, Z.opLt_int, Z.opLe_int, Z.opGt_int, Z.opGe_int, Z.okd_int, Z.okd_bl, Z.okd_non, Z.okd_lst, Z.okd_tup, Z.opEq_int, Z.opNe_int, Z.opIdx_lst, Z.opIdx_tup, Z.opIdx_scr, Z.er_oL, Z.closed_oL, Z.iL_inj, Z.okd_iL, Z.opEq_iL, Z.opNe_iL, Z.opNe_iL_nil, Z.opEq_iL_nil, Z.pLen_iL, Z.pList_iL, Z.asL_iL, Z.pAbs_int, List.set_cons_zero, List.set_cons_succ, List.map_cons, List.map_nil, List.length_cons, List.length_nil, Option.map_some, Option.map_none, Option.bind_some, Option.bind_none, if_true, if_false, ite_true, ite_false, reduceIte, Bool.false_eq_true, Bool.and_true, Bool.true_and, Bool.and_false, Bool.false_and, Bool.not_true, Bool.not_false, Bool.and_self, and_self, and_true, true_and, not_true_eq_false, not_false_eq_true, ne_eq, Int.reduceEq, Int.reduceNe, Int.reduceNeg, Int.reduceToNat, Int.reduceLT, Int.reduceLE, Nat.reduceAdd, Z.start, List.replicate, List.nil_append, List.cons_append, Nat.reduceSub, Nat.zero_add, eq_self, Option.some.injEq, List.all_cons, List.all_nil, List.append_nil, decide_true, decide_false, Bool.or_true, Bool.true_or, Bool.or_false, Bool.false_or, Z.opPow_ok, Z.natAbs_lit, Nat.reducePow, Nat.reduceLT, List.set_nil, List.replicate_succ, List.replicate_zero, $as,*])
def IsRest (ds : List D) (o : OD) : Prop := ∀ (p q : List Int), ds = [iL p, iL q] → Fit p q (bts p) (bts q) → ∃ r, o = oL r ∧ Rem p q (rb p q (bts p) (bts q)) r
noncomputable abbrev v_lrest : Fn := Val 7 (w__law_rest v_ltrim) IsRest
theorem t_lrest_can {p q : List Int} {bf bs : Nat} (F : Fit p q bf bs) : Can (w__law_rest v_ltrim) (start 7 [iL p, iL q]) (Fin fun o => ∃ r, o = oL r ∧ Rem p q (rb p q bf bs) r) := by
  unfold w__law_rest
  have hq := List.length_pos_iff.mpr F.q0
  have pl := F.pl
  have ql := F.ql
  have hz : lead q = q.getLast F.q0 := (getLast_co F.q0).symm
  refine can_seq (can_asg (oE_closed (o := oL p) (by simp_arith []) (closed_oL _)) ?_)
  have L0 := F.ql0
  have Ls := lead_small F.sq
  refine can_seq (can_while (fun m g => ∃ (r : List Int) (l : Int) (z : Nat → Int) (a b c d : Option OD), m = r.length ∧ Left p q r ∧ Small (bf + (p.length - r.length) * (2 * bs + 1)) r ∧ l ≠ 0 ∧ (∀ i, co r i = l * z i) ∧ (∀ i, (z i).natAbs < 2 ^ (bf + (p.length - r.length) * (bs + 1))) ∧ g = [some (.frz (iL p)), some (.frz (iL q)), some (oL r), a, b, c, d])
    ⟨p, 1, co p, _, _, _, _, rfl, left_start p q, F.sp.mono (Nat.le_add_right _ _), by decide, fun i => by rw [Int.one_mul], fun i => pow_up (F.sp i) (Nat.le_add_right _ _), rfl⟩ ?_)
  rintro m g ⟨r, l, z, a, b, c, d, rfl, hl, hs, hl0, hrz', hzs, rfl⟩
  have hrl := hl.len
  refine ⟨decide ((q.length : Int) ≤ r.length), by simp_arith [], fun h => ?_, fun h => ?_⟩
  · have h : q.length ≤ r.length := by simpa using h
    have hr : r ≠ [] := List.length_pos_iff.mp (by omega)
    have hrz : lead r = r.getLast hr := (getLast_co hr).symm
    have lim := bits_le F.lim (m := p.length - r.length) (by omega)
    have stp : bf + (p.length - r.length + 1) * (2 * bs + 1) = bf + (p.length - r.length) * (2 * bs + 1) + (2 * bs + 1) := step_mul _ _ _
    have stp2 : bf + (p.length - r.length + 1) * (bs + 1) = bf + (p.length - r.length) * (bs + 1) + (bs + 1) := step_mul _ _ _
    generalize hB : bf + (p.length - r.length) * (2 * bs + 1) = B at *
    generalize hC : bf + (p.length - r.length) * (bs + 1) = C at *
    have B0 : 0 < B := by have := F.pos; omega
    have C0 : 0 < C := by have := F.pos; omega
    have bs0 := F.pos.2
    refine can_seq (can_asg (oE_closed (o := fI (lead r)) (by simp_arith [opIdx_iL_last hr, hrz]) rfl) ?_)
    refine can_seq (can_asg (oE_closed (o := fI ((r.length - q.length : Nat) : Int)) (by simp_arith [show (r.length : Int) - q.length = ((r.length - q.length : Nat) : Int) by omega]) rfl) ?_)
    have mulL : ∀ x : Int, x.natAbs < 2 ^ B → mulOk x (lead q) = true ∧ mulOk (x * lead q) (lead q) = true := fun x hx => ⟨mulOk_of B bs hx Ls B0 bs0 (by omega), mulOk_of (B + bs) bs (natAbs_mul_lt hx Ls) Ls (by omega) bs0 (by omega)⟩
    refine can_seq (can_asg (oE_closed (o := oL (r.map fun x => x * lead q * lead q)) ?_ (closed_oL _)) ?_)
    · rw [comp_ints (xs := r) (h := fun x => fI (x * lead q * lead q)) (by simp_arith []) (by unfold sz; omega) (fun _ _ => rfl) (fun x hx => ?_)]
      · unfold oL; rw [List.map_map]; rfl
      · obtain ⟨i, rfl⟩ := co_mem hx
        have := mulL _ (hs i)
        simp_arith [wipeE, opIdx_iL_last F.q0, ← hz, this.1, this.2]
    have mulF : mulOk (lead r) (lead q) = true := (mulL _ (lead_small hs)).1
    have fs : (lead r * lead q).natAbs < 2 ^ (B + bs) := natAbs_mul_lt (lead_small hs) Ls
    refine can_seq (can_for0 (n := q.length) (rng1_ok (by simp_arith []) (by omega)) (fun k g => ∃ (u : List Int) (c d : Option OD), Round (lead q * lead q) (lead r * lead q) (r.length - q.length) q r k u ∧ g = [some (.frz (iL p)), some (.frz (iL q)), some (oL u), some (fI (lead r)), some (fI ((r.length - q.length : Nat) : Int)), c, d]) ⟨_, _, _, round_start (by simp) (fun i => by rw [co_map (by simp), Int.mul_assoc, Int.mul_comm]), rfl⟩ (fun k g hk hg => ?_) ?_)
    · obtain ⟨u, c, d, hu, rfl⟩ := hg
      have hul := hu.1
      have hk' : r.length - q.length + k < u.length := by omega
      have q1 : mulOk (lead r * lead q) (co q k) = true := mulOk_of (B + bs) bs fs (F.sq k) (by omega) bs0 (by omega)
      refine can_augIx (j := ((r.length - q.length + k : Nat) : Int)) (n := r.length - q.length + k) (x := co u (r.length - q.length + k)) (y := lead r * lead q * co q k) (r := co u (r.length - q.length + k) - lead r * lead q * co q k) ?_ (lstAt_oL rfl) ?_ ?_ ?_ rfl ?_
      · simp_arith [Int.natCast_add]
      · unfold place; rw [if_pos (by omega), if_pos (by rw [List.length_map]; omega), Int.toNat_natCast]
      · rw [List.getElem?_map, List.getElem?_eq_getElem hk', co_lt hk']; rfl
      · simp_arith [opIdx_iL_last F.q0, ← hz, iL_get hk, mulF, q1]
      · exact ⟨_, some (fI k), d, round_step hu (by omega), by unfold oL; rw [List.map_set]; rfl⟩
    · rintro g ⟨u, c, d, hu, rfl⟩
      have hul := hu.1
      have hbal : lead q * lead q * lead r = lead r * lead q * lead q := by rw [Int.mul_comm, Int.mul_assoc]
      have hd := round_drop F.q0 h hu hbal
      have e : p.length - u.dropLast.length = p.length - r.length + 1 := by rw [hd.1]; omega
      refine can_pop (lstAt_oL rfl) (by have : u ≠ [] := List.length_pos_iff.mp (by omega)
                                        simpa using this) ⟨_, ?_, u.dropLast, l * ((lead q).natAbs : Int), fun i => ((lead q).natAbs : Int) * z i - (if lead q < 0 then -z (r.length - 1) else z (r.length - 1)) * (if r.length - q.length ≤ i then co q (i - (r.length - q.length)) else 0), _, _, c, d, rfl, left_next hl h (Int.mul_ne_zero L0 L0) hd.1 hd.2, ?_, ?_, ?_, ?_, by unfold oL; rw [← List.map_dropLast]; rfl⟩
      · omega
      · rw [e, stp]
        intro i
        rw [hd.2]
        exact rnd_small (a := B + 2 * bs) (fun i => by rw [Int.mul_comm]; exact pow_up (natAbs_mul_lt (hs i) (natAbs_mul_lt Ls Ls)) (by omega)) (fun i => pow_up (natAbs_mul_lt fs (F.sq i)) (by omega)) (by omega) i
      · exact Int.mul_ne_zero hl0 (by omega)
      · intro i
        rw [hd.2]
        unfold rnd
        have e1 : lead r = l * z (r.length - 1) := hrz' _
        have e2 : (if lead q < 0 then -z (r.length - 1) else z (r.length - 1)) * lead q = ((lead q).natAbs : Int) * z (r.length - 1) := abs_sign.symm
        have e3 : ((lead q).natAbs : Int) * ((lead q).natAbs : Int) = lead q * lead q := Int.natAbs_mul_self
        generalize ((lead q).natAbs : Int) = A at *
        generalize (if lead q < 0 then -z (r.length - 1) else z (r.length - 1)) = w at *
        rw [e1, hrz' i, Int.mul_sub, ← e3]
        congr 1
        · simp only [Int.mul_assoc, Int.mul_comm, Int.mul_left_comm]
        · have e4 : l * z (r.length - 1) * lead q = l * (lead q * z (r.length - 1)) := by simp only [Int.mul_assoc, Int.mul_comm, Int.mul_left_comm]
          have : l * z (r.length - 1) * lead q = l * A * w := by
            have A0 : A = lead q ∨ A = -lead q := by
              have h5 : (A - lead q) * (A + lead q) = 0 := by rw [Int.mul_add, Int.sub_mul, Int.sub_mul, Int.mul_comm (lead q) A]; omega
              rcases Int.mul_eq_zero.mp h5 with h6 | h6 <;> omega
            have w0 : lead q * w = A * z (r.length - 1) := by rw [Int.mul_comm]; exact e2
            rcases A0 with h6 | h6
            · rw [h6] at w0 ⊢
              have := Int.eq_of_mul_eq_mul_left L0 w0
              rw [this]; simp only [Int.mul_assoc, Int.mul_comm, Int.mul_left_comm]
            · rw [h6, Int.neg_mul, ← Int.mul_neg] at w0
              have := Int.eq_of_mul_eq_mul_left L0 w0
              rw [this, h6, Int.mul_neg, Int.mul_neg, Int.neg_mul, Int.neg_neg]; simp only [Int.mul_assoc, Int.mul_comm, Int.mul_left_comm]
          rw [this, Int.mul_assoc]
      · intro i
        rw [e, stp2]
        refine pow_up (a := C + bs + 1) (natAbs_sub_lt ?_ ?_) (by omega)
        · rw [Int.mul_comm]; exact natAbs_mul_lt (hzs i) (small_abs Ls)
        · refine natAbs_mul_lt ?_ ?_
          · have := hzs (r.length - 1)
            split <;> omega
          · split
            · exact F.sq _
            · exact Nat.pow_pos (by decide)
  · have h : ¬ q.length ≤ r.length := by simpa using h
    obtain ⟨x, hx, hxt⟩ := t_ltrim r
    refine can_ret (oE_closed (o := oL x) (by simp_arith [hx]) (closed_oL _)) ⟨x, rfl, rem_of hl (by omega) hxt ⟨l, z, hl0, hrz', fun i => pow_up (hzs i) ?_⟩⟩
    have : p.length - r.length ≤ p.length + 1 - q.length := by
      by_cases hpq : p.length < q.length
      · rw [hl.low hpq]; omega
      · have := hl.low2 (by omega); omega
    have := Nat.mul_le_mul_right (bs + 1) this
    unfold rb
    omega
theorem t_lrest {p q : List Int} {bf bs : Nat} (F : Fit p q bf bs) : ∃ r, v_lrest [iL p, iL q] = some (oL r) ∧ Rem p q (rb p q bf bs) r := by
  have h : Can (w__law_rest v_ltrim) (start 7 [iL p, iL q]) (Fin (IsRest [iL p, iL q])) := (t_lrest_can F.min).imp fun r hr => by
    cases r with
    | rt o =>
      intro p' q' e _
      obtain ⟨rfl, rfl⟩ := iL2 e
      exact hr
    | nx g => obtain ⟨_, e, _⟩ := hr; cases e
    | _ => exact hr
  obtain ⟨o, h1, h2⟩ := val_ex (R := IsRest) h
  obtain ⟨r, rfl, h3⟩ := h2 p q rfl F.min
  exact ⟨r, h1, h3.up (rb_le (bts_le F.sp F.pos.1) (bts_le F.sq F.pos.2))⟩
end Law
namespace Law
open Z PySem
local macro_rules
  | `(tactic| simp_arith [$as,*]) => `(tactic| simp (config := { decide := false }) only [Z.rd_nil, Z.rd_zero, Z.rd_succ, Z.erG_nil, Z.erG_cons, Z.er_frz, Z.er_lst, Z.er_tup, Z.er_fI, Z.er_fB, Z.closed_frz, Z.closed_lst, Z.closed_tup, Z.closed_fI, Z.closed_fB, Z.eVar_ev, Z.eVar_d, Z.eC_ev, Z.eC_d, Z.eOp_ev, Z.eOp_d, Z.eUn_ev, Z.eUn_d, Z.eds_nil, Z.eds_cons, Z.eods_nil, Z.eods_cons, Z.eCall_ev, Z.eCall_d, Z.eTup_ev, Z.eTup_d, Z.eLst_ev, Z.eLst_d, Z.tV_ev, Z.asB_bl, Z.tAnd_ev, Z.tOr_ev, Z.tNot_ev, Z.tYes_ev, Z.eIf_ev, Z.eIf_d, Z.eAnd_ev, Z.eAnd_d, Z.eOr_ev, Z.eOr_d, Z.eNot_ev, Z.eNot_d, Z.eCut_ev, Z.eCut_d, Z.eOpt_none, Z.eOpt_some, Z.asO_int, Z.opCut_lst, Z.asI_int, Z.asL_lst, Z.asT_tup, Z.iLst_ev, Z.iTup_ev, Z.iZip_ev, Z.iEnum_ev, Z.gName_ev, Z.opAdd_int, Z.opSub_int, Z.opMul_int, Z.opFdiv_int, Z.opMod_int, Z.opNeg_int, Z.opLt_int, Z.opLe_int, Z.opGt_int, Z.opGe_int, Z.okd_int, Z.okd_bl, Z.okd_non, Z.okd_lst, Z.okd_tup, Z.opEq_int, Z.opNe_int, Z.opIdx_lst, Z.opIdx_tup, Z.opIdx_scr, Z.er_oL, Z.closed_oL, Z.iL_inj, Z.okd_iL, Z.opEq_iL, Z.opNe_iL, Z.opNe_iL_nil, Z.opEq_iL_nil, Z.pLen_iL, Z.pList_iL, Z.asL_iL, Z.pAbs_int, List.set_cons_zero, List.set_cons_succ, List.map_cons, List.map_nil, List.length_cons, List.length_nil, Option.map_some, Option.map_none, Option.bind_some, Option.bind_none, if_true, if_false, ite_true, ite_false, reduceIte, Bool.false_eq_true, Bool.and_true, Bool.true_and, Bool.and_false, Bool.false_and, Bool.not_true, Bool.not_false, Bool.and_self, and_self, and_true, true_and, not_true_eq_false, not_false_eq_true, ne_eq, Int.reduceEq, Int.reduceNe, Int.reduceNeg, Int.reduceToNat, Int.reduceLT, Int.reduceLE, Nat.reduceAdd, Z.start, List.replicate, List.nil_append, List.cons_append, Nat.reduceSub, Nat.zero_add, eq_self, Option.some.injEq, List.all_cons, List.all_nil, List.append_nil, decide_true, decide_false, Bool.or_true, Bool.true_or, Bool.or_false, Bool.false_or, Z.opPow_ok, Z.natAbs_lit, Nat.reducePow, Nat.reduceLT, List.set_nil, List.replicate_succ, List.replicate_zero, $as,*])
def bb : Nat → Nat
  | 0 => 212
  | 1 => 425
  | n + 2 => bb n + 2 * (bb (n + 1) + 1)
theorem bb_pos : ∀ n, 0 < bb n
  | 0 => by decide
  | 1 => by decide
  | n + 2 => by simp only [bb]; omega
theorem bb_up : ∀ n, bb n ≤ bb (n + 1)
  | 0 => by decide
  | n + 1 => by simp only [bb]; omega
theorem bb_mono {a b : Nat} (h : a ≤ b) : bb a ≤ bb b := by
  induction h with
  | refl => exact Nat.le_refl _
  | step _ ih => exact Nat.le_trans ih (bb_up _)
def bbOk (e t : Nat) : Bool := decide (e = 0) || decide (t = 0) || decide (14 < e + t) || (decide (bb (e - 1) + (t + 1) * (bb e + 1) ≤ bb (e + t)) && (decide (13 < e + t) || decide (bb (e - 1) + (t + 2) * (2 * bb e + 1) ≤ 134200000)))
theorem bbOk_all : ((List.range 14).all fun e => (List.range 14).all fun t => bbOk e t) = true := by decide +kernel
theorem bb_all (e : Nat) (he : e < 14) (t : Nat) (ht : t < 14) (h1 : 1 ≤ e) (h2 : 1 ≤ t) (h3 : e + t ≤ 14) : bb (e - 1) + (t + 1) * (bb e + 1) ≤ bb (e + t) ∧ (e + t ≤ 13 → bb (e - 1) + (t + 2) * (2 * bb e + 1) ≤ 134200000) := by
  have := List.all_eq_true.mp (List.all_eq_true.mp bbOk_all e (List.mem_range.mpr he)) t (List.mem_range.mpr ht)
  unfold bbOk at this
  simp only [Bool.or_eq_true, Bool.and_eq_true, decide_eq_true_eq] at this
  omega
theorem bb_first : ∀ e, e < 15 → 1 ≤ e → 212 + e * 213 ≤ bb e := by decide +kernel
/-- two polynomials on the way -/
structure St (p q : List Int) : Prop where
  p0 : p ≠ []
  pl0 : lead p ≠ 0
  tq : Trim q
  pl : p.length ≤ 13
  ql : q.length ≤ 13
  bits : (Small 212 p ∧ Small 212 q) ∨ (q.length < p.length ∧ Small (bb (13 - p.length)) p ∧ Small (bb (14 - p.length)) q)
theorem st_fit {p q : List Int} (h : St p q) (hq : q ≠ []) : ∃ bf bs, Fit p q bf bs ∧ ∀ x : List Int, Trim x → x.length < q.length → Small (rb p q bf bs) x → St q x := by
  have lq := List.length_pos_iff.mpr hq
  have lp := List.length_pos_iff.mpr h.p0
  have pl := h.pl
  have ql := h.ql
  rcases h.bits with ⟨b1, b2⟩ | ⟨b0, b1, b2⟩
  · have m1 : (p.length + 2 - q.length) * (2 * 212 + 1) ≤ 14 * 425 := Nat.mul_le_mul_right _ (by omega)
    refine ⟨212, 212, ⟨by omega, by omega, hq, h.tq hq, b1, b2, by decide, by omega⟩, fun x tx lx sx => ⟨hq, h.tq hq, tx, ql, by omega, .inr ⟨lx, b2.mono ?_, sx.mono ?_⟩⟩⟩
    · exact bb_mono (Nat.zero_le _)
    · have := bb_first (14 - q.length) (by omega) (by omega)
      have : (p.length + 1 - q.length) * (212 + 1) ≤ (14 - q.length) * 213 := Nat.mul_le_mul_right _ (by omega)
      unfold rb
      omega
  · have key := bb_all (14 - p.length) (by omega) (p.length - q.length) (by omega) (by omega) (by omega) (by omega)
    rw [show 14 - p.length - 1 = 13 - p.length by omega, show 14 - p.length + (p.length - q.length) = 14 - q.length by omega, show p.length - q.length + 1 = p.length + 1 - q.length by omega, show p.length - q.length + 2 = p.length + 2 - q.length by omega] at key
    exact ⟨_, _, ⟨by omega, by omega, hq, h.tq hq, b1, b2, ⟨bb_pos _, bb_pos _⟩, key.2 (by omega)⟩, fun x tx lx sx => ⟨hq, h.tq hq, tx, ql, by omega, .inr ⟨lx, b2.mono (bb_mono (by omega)), sx.mono key.1⟩⟩⟩
theorem co_nil : co [] = fun _ => 0 := funext fun i => by simp [co]
theorem freed_j {a : Nat → Int} {y x : List Int} {c : Int} (h : Freed y c x) : (J a (co y) (co x)) ∧ J a (co x) (co y) :=
  ⟨.div c h.nz (J.snd.of_eq h.eq), (J.snd.smul c).of_eq fun i => (h.eq i).symm⟩
theorem rem_eqv {p q r : List Int} {b : Nat} (h : Rem p q b r) : Eqv (co p) (co q) (co q) (co r) := .of .snd h.mak h.un .fst
theorem freed_eqv {a : Nat → Int} {y x : List Int} {c : Int} (h : Freed y c x) : Eqv a (co y) a (co x) := .of .fst (freed_j h).1 .fst (freed_j h).2
theorem freed_trim {y x : List Int} {c : Int} (h : Freed y c x) (hy : lead y ≠ 0) : lead x ≠ 0 := fun q => hy (by rw [h.lead_eq, q, Int.mul_zero])
theorem freed_bound {p q y x : List Int} {c : Int} {b : Nat} (h : Freed y c x) (R : Rem p q b y) : Small b x := fun i => by
  obtain ⟨l, z, h1, h2, h3⟩ := R.bound
  exact Nat.lt_of_le_of_lt (prim_le h.prim h.nz h1 (fun i => by rw [← h.eq, h2]) i) (h3 i)
/-- one turn of the common part -/
theorem st_next {p q r x : List Int} {c : Int} {bf bs : Nat} (k : ∀ x : List Int, Trim x → x.length < q.length → Small (rb p q bf bs) x → St q x) (R : Rem p q (rb p q bf bs) r) (hr : r ≠ []) (F : Freed r c x) : St q x ∧ Eqv (co p) (co q) (co q) (co x) ∧ x.length < q.length := by
  have l : x.length < q.length := by rw [F.len]; exact R.len
  exact ⟨k x (fun _ => freed_trim F (R.trim hr)) l (freed_bound F R), (rem_eqv R).trans (freed_eqv F), l⟩
theorem st_last {p q : List Int} {bf bs : Nat} (k : ∀ x : List Int, Trim x → x.length < q.length → Small (rb p q bf bs) x → St q x) (R : Rem p q (rb p q bf bs) []) : St q [] ∧ Eqv (co p) (co q) (co q) (co []) :=
  ⟨k [] (fun h => (h rfl).elim) R.len fun i => by rw [co_nil]; exact Nat.pow_pos (by decide), rem_eqv R⟩
structure Start (p q : List Int) : Prop where
  p : Ok 212 13 p
  q : Ok 212 13 q
theorem Start.st {p q : List Int} (h : Start p q) : St p q := ⟨h.p.ne, h.p.lead, fun _ => h.q.lead, h.p.len, h.q.len, .inl ⟨h.p.small, h.q.small⟩⟩
def IsCommon (ds : List D) (o : OD) : Prop := ∀ p q : List Int, ds = [iL p, iL q] → Start p q → ∃ g, o = oL g ∧ Norm g ∧ Eqv (co p) (co q) (co g) fun _ => 0
theorem norm_of {p q p' x : List Int} {c : Int} (e : Eqv (co p) (co q) (co p') (co [])) (F : Freed p' c x) (h : 0 < lead x) : Norm x ∧ Eqv (co p) (co q) (co x) fun _ => 0 := by
  rw [co_nil] at e
  exact ⟨⟨F.prim, h⟩, (e.trans Eqv.swap).trans ((freed_eqv F).trans Eqv.swap)⟩
noncomputable abbrev v_lcommon : Fn := Val 3 (w__law_common v_lrest v_lfreed) IsCommon
theorem t_lcommon {p q : List Int} (h : Start p q) : ∃ g, v_lcommon [iL p, iL q] = some (oL g) ∧ Norm g ∧ Eqv (co p) (co q) (co g) fun _ => 0 := by
  have hc : Can (w__law_common v_lrest v_lfreed) (start 3 [iL p, iL q]) (Fin (IsCommon [iL p, iL q])) := by
    unfold w__law_common
    refine can_seq (can_while (fun m g => ∃ (p' q' : List Int) (c : Option OD), m = q'.length ∧ St p' q' ∧ Eqv (co p) (co q) (co p') (co q') ∧ g = [some (.frz (iL p')), some (.frz (iL q')), c]) ⟨p, q, _, rfl, h.st, .refl, rfl⟩ ?_)
    rintro m g ⟨p', q', c, rfl, hs, he, rfl⟩
    refine ⟨!(q' == []), by simp_arith [show (D.lst []) = iL [] from rfl], fun ht => ?_, fun ht => ?_⟩
    · have hq : q' ≠ [] := by simpa using ht
      obtain ⟨bf, bs, F, k⟩ := st_fit hs hq
      obtain ⟨r, h1, R⟩ := t_lrest F
      refine can_seq (can_asg (oE_closed (o := oL r) (by simp_arith [h1]) (closed_oL _)) ?_)
      have go : ∀ x : List Int, (St q' x ∧ Eqv (co p') (co q') (co q') (co x) ∧ x.length < q'.length) → Can (sPar [0, 1] [oE [1] (eVar 1), oE [2] (eVar 2)]) [some (.frz (iL p')), some (.frz (iL q')), some (oL x)] (Turn (fun g' => ∃ m', m' < q'.length ∧ ∃ (p' q' : List Int) (c : Option OD), m' = q'.length ∧ St p' q' ∧ Eqv (co p) (co q) (co p') (co q') ∧ g' = [some (.frz (iL p')), some (.frz (iL q')), c]) (Then (sRet (oE [0] (eCall v_lfreed [eVar 0]))) (Fin (IsCommon [iL p, iL q])))) := by
        intro x hx
        refine can_par (rs := [.frz (iL q'), .frz (iL x)]) (g' := [some (.frz (iL p')), some (.frz (iL q')), some (.frz (iL x))]) ?_ rfl ⟨_, hx.2.2, q', x, _, rfl, hx.1, he.trans hx.2.1, rfl⟩
        have a1 : oE [1] (eVar 1) [some (.frz (iL p')), some (.frz (iL q')), some (oL x)] = some (.frz (iL q'), [some (.frz (iL p')), some (.frz (iL q')), some (oL x)]) := oE_open rfl rfl
        have a2 : oE [2] (eVar 2) [some (.frz (iL p')), some (.frz (iL q')), some (oL x)] = some (.frz (iL x), [some (.frz (iL p')), some (.frz (iL q')), some (.frz (iL x))]) := by
          rw [oE_open (o := .frz (iL x)) (by simp_arith []) rfl, ← er_oL x]; rfl
        simp only [oList, a1, a2, Option.bind_some]
      refine can_seq (can_if (!(r == [])) (by simp_arith [show (D.lst []) = iL [] from rfl]) (fun hr => ?_) fun hr => can_skip ?_)
      · have hr : r ≠ [] := by simpa using hr
        obtain ⟨c, x, h2, F2, h3⟩ := t_lfreed (R.trim hr) (by have := R.len; have := hs.ql; omega)
        exact can_asg (oE_closed (o := oL x) (by simp_arith [h2]) (closed_oL _)) (go x (st_next k R hr F2))
      · have hr : r = [] := by simpa using hr
        subst hr
        have := st_last k R
        exact go [] ⟨this.1, this.2, List.length_pos_iff.mpr hq⟩
    · have hq : q' = [] := by simpa using ht
      subst hq
      obtain ⟨c, x, h2, F2, h3⟩ := t_lfreed hs.pl0 (by have := hs.pl; omega)
      refine can_ret (oE_closed (o := oL x) (by simp_arith [h2]) (closed_oL _)) fun a b e _ => ?_
      obtain ⟨rfl, rfl⟩ := iL2 e
      exact ⟨x, rfl, norm_of he F2 h3⟩
  obtain ⟨o, h1, h2⟩ := val_ex (R := IsCommon) hc
  obtain ⟨g, rfl, h3⟩ := h2 p q rfl h
  exact ⟨g, h1, h3⟩
end Law
namespace Law
open Z PySem
local macro_rules
  | `(tactic| simp_arith [$as,*]) => `(tactic| simp (config := { decide := false }) only [Z.rd_nil, Z.rd_zero, Z.rd_succ, Z.erG_nil, Z.erG_cons, Z.er_frz, Z.er_lst, Z.er_tup, Z.er_fI, Z.er_fB, Z.closed_frz, Z.closed_lst, Z.closed_tup, Z.closed_fI, Z.closed_fB, Z.eVar_ev, Z.eVar_d, Z.eC_ev, Z.eC_d, Z.eOp_ev, Z.eOp_d, Z.eUn_ev, Z.eUn_d, Z.eds_nil, Z.eds_cons, Z.eods_nil, Z.eods_cons, Z.eCall_ev, Z.eCall_d, Z.eTup_ev, Z.eTup_d, Z.eLst_ev, Z.eLst_d, Z.tV_ev, Z.asB_bl, Z.tAnd_ev, Z.tOr_ev, Z.tNot_ev, Z.tYes_ev, Z.eIf_ev, Z.eIf_d, Z.eAnd_ev, Z.eAnd_d, Z.eOr_ev, Z.eOr_d, Z.eNot_ev, Z.eNot_d, Z.eCut_ev, Z.eCut_d, Z.eOpt_none, Z.eOpt_some, Z.asO_int, Z.opCut_lst, Z.asI_int, Z.asL_lst, Z.asT_tup, Z.iLst_ev, Z.iTup_ev, Z.iZip_ev, Z.iEnum_ev, Z.gName_ev, Z.opAdd_int, Z.opSub_int, Z.opMul_int, Z.opFdiv_int, Z.opMod_int, Z.opNeg_int, Z.opLt_int, Z.opLe_int, Z.opGt_int, Z.opGe_int, Z.okd_int, Z.okd_bl, Z.okd_non, Z.okd_lst, Z.okd_tup, Z.opEq_int, Z.opNe_int, Z.opIdx_lst, Z.opIdx_tup, Z.opIdx_scr, Z.er_oL, Z.closed_oL, Z.iL_inj, Z.okd_iL, Z.opEq_iL, Z.opNe_iL, Z.opNe_iL_nil, Z.opEq_iL_nil, Z.pLen_iL, Z.pList_iL, Z.asL_iL, Z.pAbs_int, List.set_cons_zero, List.set_cons_succ, List.map_cons, List.map_nil, List.length_cons, List.length_nil, Option.map_some, Option.map_none, Option.bind_some, Option.bind_none, if_true, if_false, ite_true, ite_false, reduceIte, Bool.false_eq_true, Bool.and_true, Bool.true_and, Bool.and_false, Bool.false_and, Bool.not_true, Bool.not_false, Bool.and_self, and_self, and_true, true_and, not_true_eq_false, not_false_eq_true, ne_eq, Int.reduceEq, Int.reduceNe, Int.reduceNeg, Int.reduceToNat, Int.reduceLT, Int.reduceLE, Nat.reduceAdd, Z.start, List.replicate, List.nil_append, List.cons_append, Nat.reduceSub, Nat.zero_add, eq_self, Option.some.injEq, List.all_cons, List.all_nil, List.append_nil, decide_true, decide_false, Bool.or_true, Bool.true_or, Bool.or_false, Bool.false_or, Z.opPow_ok, Z.natAbs_lit, Nat.reducePow, Nat.reduceLT, List.set_nil, List.replicate_succ, List.replicate_zero, $as,*])
noncomputable abbrev v_common : Fn := Val 6 (w_common_part v_parted v_freed) IsCommon
theorem Freed.neg {y x : List Int} {c : Int} (h : Freed y c x) : Freed y (-c) (x.map fun n => -n) :=
  ⟨by have := h.nz; omega, by simpa using h.len, fun i => by rw [co_map rfl, Int.neg_mul_neg, h.eq], fun d b hd => h.prim d b fun i => by
    have := hd i
    rw [co_map rfl, Int.mul_neg] at this
    exact Int.dvd_neg.mp this⟩
theorem t_common {p q : List Int} (h : Start p q) : ∃ g, v_common [iL p, iL q] = some (oL g) ∧ Norm g ∧ Eqv (co p) (co q) (co g) fun _ => 0 := by
  have hc : Can (w_common_part v_parted v_freed) (start 6 [iL p, iL q]) (Fin (IsCommon [iL p, iL q])) := by
    unfold w_common_part
    refine can_seq (can_par (rs := [oL p, oL q]) (g' := start 6 [iL p, iL q]) ?_ rfl ?_)
    · have a1 : oE [0] (eCall pList [eVar 0]) (start 6 [iL p, iL q]) = some (oL p, start 6 [iL p, iL q]) := oE_closed (by simp_arith []) (closed_oL _)
      have a2 : oE [1] (eCall pList [eVar 1]) (start 6 [iL p, iL q]) = some (oL q, start 6 [iL p, iL q]) := oE_closed (by simp_arith []) (closed_oL _)
      simp only [oList, a1, a2, Option.bind_some]
    refine can_seq (can_while (fun m g => ∃ (p' q' : List Int) (o1 o2 : OD) (c d : Option OD), m = q'.length ∧ St p' q' ∧ Eqv (co p) (co q) (co p') (co q') ∧ o1.er = iL p' ∧ o2.er = iL q' ∧ g = [some (.frz (iL p)), some (.frz (iL q)), some o1, some o2, c, d]) ⟨p, q, _, _, _, _, rfl, h.st, .refl, er_oL p, er_oL q, rfl⟩ ?_)
    rintro m g ⟨p', q', o1, o2, c, d, rfl, hs, he, e1, e2, rfl⟩
    refine ⟨!(q' == []), by simp_arith [show (D.lst []) = iL [] from rfl, e2], fun ht => ?_, fun ht => ?_⟩
    · have hq : q' ≠ [] := by simpa using ht
      obtain ⟨bf, bs, F, k⟩ := st_fit hs hq
      obtain ⟨r, t, h1, R⟩ := t_parted F
      refine can_seq (can_asg (r := .frz (iL r)) (g' := [some (.frz (iL p)), some (.frz (iL q)), some (.frz (iL p')), some (.frz (iL q')), c, d]) ?_ ?_)
      · rw [oE_open (o := .frz (iL r)) (by simp_arith [e1, e2, h1, show at' [iL r, iL t.reverse] 0 = some (iL r) from rfl, show at' [iL r, iL t] 0 = some (iL r) from rfl]) rfl, ← e1, ← e2]; rfl
      have go : ∀ (o : OD) (x : List Int), o.er = iL x → (St q' x ∧ Eqv (co p') (co q') (co q') (co x) ∧ x.length < q'.length) → Can (sPar [2, 3] [oE [3] (eVar 3), oE [4] (eVar 4)]) [some (.frz (iL p)), some (.frz (iL q)), some (.frz (iL p')), some (.frz (iL q')), some o, d] (Turn (fun g' => ∃ m', m' < q'.length ∧ ∃ (p' q' : List Int) (o1 o2 : OD) (c d : Option OD), m' = q'.length ∧ St p' q' ∧ Eqv (co p) (co q) (co p') (co q') ∧ o1.er = iL p' ∧ o2.er = iL q' ∧ g' = [some (.frz (iL p)), some (.frz (iL q)), some o1, some o2, c, d]) (Then (sSeq (sAsg 2 (oE [2] (eCall v_freed [eVar 2]))) (sSeq (sIf (tV (eOp opLt (eOp opIdx (eVar 2) (eUn opNeg (eC (.int 1)))) (eC (.int 0)))) (sRet (oE [2, 5] (eComp [5] (Z.iLst (eVar 2)) (Z.gName 5) Z.tYes (eUn opNeg (eVar 5))))) sSkip) (sRet (oMv 2)))) (Fin (IsCommon [iL p, iL q])))) := by
        intro o x ho hx
        refine can_par (rs := [.frz (iL q'), .frz (iL x)]) (g' := [some (.frz (iL p)), some (.frz (iL q)), some (.frz (iL p')), some (.frz (iL q')), some (.frz (iL x)), d]) ?_ rfl ⟨_, hx.2.2, q', x, _, _, _, _, rfl, hx.1, he.trans hx.2.1, rfl, rfl, rfl⟩
        have a1 : oE [3] (eVar 3) [some (.frz (iL p)), some (.frz (iL q)), some (.frz (iL p')), some (.frz (iL q')), some o, d] = some (.frz (iL q'), [some (.frz (iL p)), some (.frz (iL q)), some (.frz (iL p')), some (.frz (iL q')), some o, d]) := oE_open rfl rfl
        have a2 : oE [4] (eVar 4) [some (.frz (iL p)), some (.frz (iL q)), some (.frz (iL p')), some (.frz (iL q')), some o, d] = some (.frz (iL x), [some (.frz (iL p)), some (.frz (iL q)), some (.frz (iL p')), some (.frz (iL q')), some (.frz (iL x)), d]) := by
          rw [oE_open (o := .frz (iL x)) (by simp_arith [ho]) rfl, ← ho]; rfl
        simp only [oList, a1, a2, Option.bind_some]
      refine can_seq (can_if (!(r == [])) (by simp_arith [show (D.lst []) = iL [] from rfl]) (fun hr => ?_) fun hr => can_skip ?_)
      · have hr : r ≠ [] := by simpa using hr
        obtain ⟨c, x, h2, F2, h3⟩ := t_freed (R.trim hr) (by have := R.len; have := hs.ql; omega)
        exact can_asg (oE_closed (o := oL x) (by simp_arith [h2]) (closed_oL _)) (go _ x (er_oL x) (st_next k R hr F2))
      · have hr : r = [] := by simpa using hr
        subst hr
        have := st_last k R
        exact go _ [] rfl ⟨this.1, this.2, List.length_pos_iff.mpr hq⟩
    · have hq : q' = [] := by simpa using ht
      subst hq
      obtain ⟨a, x, h2, F2, h3⟩ := t_freed hs.pl0 (by have := hs.pl; omega)
      have x0 : lead x ≠ 0 := freed_trim F2 hs.pl0
      have hx : x ≠ [] := by rintro rfl; exact x0 rfl
      have hz : lead x = x.getLast hx := (getLast_co hx).symm
      refine can_seq (can_asg (oE_closed (o := oL x) (by simp_arith [e1, h2]) (closed_oL _)) ?_)
      refine can_seq (can_if (decide (lead x < 0)) (by simp_arith [opIdx_iL_last hx, hz]) (fun hn => ?_) fun hn => can_skip ?_)
      · have hn : lead x < 0 := by simpa using hn
        refine can_ret (oE_closed (o := oL (x.map fun n => -n)) ?_ (closed_oL _)) fun a b e _ => ?_
        · rw [comp_ints (xs := x) (h := fun n => fI (-n)) (by simp_arith []) (by have := F2.len; have := hs.pl; unfold sz; omega) (fun _ _ => rfl) (fun v hv => by simp_arith [wipeE])]
          unfold oL; rw [List.map_map]; rfl
        · obtain ⟨rfl, rfl⟩ := iL2 e
          exact ⟨_, rfl, norm_of he F2.neg (by unfold lead at hn ⊢; rw [List.length_map, co_map rfl]; omega)⟩
      · have hn : ¬ lead x < 0 := by simpa using hn
        refine can_ret (r := oL x) rfl fun a b e _ => ?_
        obtain ⟨rfl, rfl⟩ := iL2 e
        exact ⟨_, rfl, norm_of he F2 (by omega)⟩
  obtain ⟨o, h1, h2⟩ := val_ex (R := IsCommon) hc
  obtain ⟨g, rfl, h3⟩ := h2 p q rfl h
  exact ⟨g, h1, h3⟩
def IsYes (o : OD) : Prop := o = fB true
noncomputable abbrev v_whole : Fn := Val 1 w__law_whole fun _ => IsYes
theorem t_whole (i : Int) : v_whole [.int i] = some (fB true) := by
  have hc : Can w__law_whole (start 1 [.int i]) (Fin IsYes) := by
    unfold w__law_whole
    refine can_ret (oE_closed (o := fB true) ?_ rfl) rfl
    simp_arith [show pIsi "int" [.int i] = some (fB true) from rfl, show pIsi "bool" [.int i] = some (fB false) from rfl]
  obtain ⟨o, h1, rfl⟩ := val_ex (R := fun _ => IsYes) hc
  exact h1
def IsGood (ds : List D) (o : OD) : Prop := ∀ p q g : List Int, ds = [iL p, iL q, iL g] → o = fB true
noncomputable abbrev v_good : Fn := Val 8 (w__law_good v_common v_whole) fun _ => IsYes
theorem t_good {p q g : List Int} (hg : v_common [iL p, iL q] = some (oL g)) (l1 : p.length < 1000) (l2 : g.length < 1000) : v_good [iL p, iL q, iL g] = some (fB true) := by
  have hc : Can (w__law_good v_common v_whole) (start 8 [iL p, iL q, iL g]) (Fin IsYes) := by
    unfold w__law_good
    refine can_seq (can_for0 (n := 2) (rng1_ok rfl (by decide)) (fun k s => ∃ a b c d e : Option OD, s = [some (.frz (iL p)), some (.frz (iL q)), some (.frz (iL g)), a, b, c, d, e]) ⟨_, _, _, _, _, rfl⟩ (fun k s hk hs => ?_) ?_)
    · obtain ⟨a, b, c, d, e, rfl⟩ := hs
      refine can_seq (can_par (rs := [oL p, oL q]) (g' := [some (.frz (iL p)), some (.frz (iL q)), some (.frz (iL g)), some (fI k), b, c, d, e]) ?_ rfl ?_)
      · have a1 : oE [0] (eCall pList [eVar 0]) [some (.frz (iL p)), some (.frz (iL q)), some (.frz (iL g)), some (fI k), b, c, d, e] = some (oL p, [some (.frz (iL p)), some (.frz (iL q)), some (.frz (iL g)), some (fI k), b, c, d, e]) := oE_closed (by simp_arith []) (closed_oL _)
        have a2 : oE [1] (eCall pList [eVar 1]) [some (.frz (iL p)), some (.frz (iL q)), some (.frz (iL g)), some (fI k), b, c, d, e] = some (oL q, [some (.frz (iL p)), some (.frz (iL q)), some (.frz (iL g)), some (fI k), b, c, d, e]) := oE_closed (by simp_arith []) (closed_oL _)
        show oList _ [some (.frz (iL p)), some (.frz (iL q)), some (.frz (iL g)), some (fI k), b, c, d, e] = _
        simp only [oList, a1, a2, Option.bind_some]
      show Can _ [some (.frz (iL p)), some (.frz (iL q)), some (.frz (iL g)), some (fI k), b, some (oL p), some (oL q), e] _
      refine can_seq (can_asg (oE_closed (o := oL g) (by simp_arith [hg]) (closed_oL _)) ?_)
      refine can_seq (can_if false (by simp_arith [show (p == p) = true from beq_self_eq_true p, show (q == q) = true from beq_self_eq_true q, show pIsi "list" [iL g] = some (fB true) from rfl]) (fun h => nomatch h) fun _ => can_skip ?_)
      refine can_seq (can_if false ?_ (fun h => nomatch h) fun _ => can_skip ?_)
      · have e1 : eComp [7] (Z.iLst (eVar 4)) (Z.gName 7) Z.tYes (eCall v_whole [(eVar 7)]) (erG [some (.frz (iL p)), some (.frz (iL q)), some (.frz (iL g)), some (fI k), some (oL g), some (oL p), some (oL q), e]) = some (.lst (g.map fun _ => fB true)) :=
          comp_ints (xs := g) (h := fun _ => fB true) (by simp_arith []) (by unfold sz; omega) (fun _ _ => rfl) (fun v hv => by simp_arith [wipeE, t_whole])
        have e2 := Z.EX.d_of e1
        rw [er_lst, List.map_map, show (g.map (OD.er ∘ fun _ => fB true)) = List.replicate g.length (.bl true) from by rw [show (OD.er ∘ fun (_ : Int) => fB true) = fun _ => D.bl true from rfl, List.map_const']] at e2
        show (Z.tOr _ _) (erG [some (.frz (iL p)), some (.frz (iL q)), some (.frz (iL g)), some (fI k), some (oL g), some (oL p), some (oL q), e]) = _
        simp only [tOr_ev, tNot_ev, tV_ev, eCall_d, eds_cons, eds_nil, e2, Option.bind_some, pAll_true, Option.map_some, er_fB, asB_bl]
        simp_arith [show (g == g) = true from beq_self_eq_true g]
      refine can_seq (can_app (oE_closed (o := fI 2) rfl rfl) (lstAt_oL rfl) (lstAt_oL rfl) (by rw [List.length_map]; unfold sz; omega) ?_)
      refine can_seq (can_if false (by simp_arith [show (p == p) = true from beq_self_eq_true p, show (q == q) = true from beq_self_eq_true q]) (fun h => nomatch h) fun _ => can_skip ?_)
      exact can_app (oE_closed (o := fI 1) rfl rfl) (lstAt_oL rfl) (lstAt_oL rfl) (by rw [List.length_map]; unfold sz; omega) ⟨_, _, _, _, _, rfl⟩
    · rintro s ⟨a, b, c, d, e, rfl⟩
      exact can_ret (oE_closed (o := fB true) rfl rfl) rfl
  obtain ⟨o, h1, rfl⟩ := val_ex (R := fun _ => IsYes) hc
  exact h1
theorem norm_len {g : List Int} (h : Norm g) {p : List Int} {a : Nat → Int} (e : Eqv (co p) a (co g) fun _ => 0) (hp : p ≠ []) (hl : lead p ≠ 0) : g.length ≤ p.length := by
  obtain ⟨c, u0, hc, h0⟩ := ((e _).mp .fst).multiple
  obtain ⟨u, tu, hu⟩ := mulU_trim (co g) _ u0 rfl
  have lg := List.length_pos_iff.mpr (norm_ne h)
  have lp := List.length_pos_iff.mpr hp
  have hne : u ≠ [] := by
    rintro rfl
    have := h0 (p.length - 1)
    rw [← hu] at this
    simp only [mulU] at this
    rcases Int.mul_eq_zero.mp this with q | q
    · exact hc q
    · exact hl q
  have top := mulU_top (g := co g) (d := g.length - 1) (fun i hi => co_ge (by omega)) u hne
  rw [hu, ← h0] at top
  have nz : lead u * co g (g.length - 1) ≠ 0 := Int.mul_ne_zero (tu hne) (by have := h.pos; unfold lead at this; omega)
  rw [← top] at nz
  have : co p (u.length - 1 + (g.length - 1)) ≠ 0 := fun q => nz (by rw [q, Int.mul_zero])
  have : u.length - 1 + (g.length - 1) < p.length := Classical.byContradiction fun q => this (co_ge (by omega))
  have := List.length_pos_iff.mpr hne
  omega
noncomputable abbrev v_law : Fn := Val 4 (w_law v_pair v_lcommon v_good v_lfreed) fun _ => IsYes
theorem t_law (ns : List Int) : v_law [.scr ns] = some (fB true) := by
  have hc : Can (w_law v_pair v_lcommon v_good v_lfreed) (start 4 [.scr ns]) (Fin IsYes) := by
    unfold w_law
    obtain ⟨p, q, hp, op, oq⟩ := t_pair ns
    refine can_seq (can_unp (oE_closed (o := .tup [oL p, oL q]) (by simp_arith [hp]) (by simp_arith [])) (os := [oL p, oL q]) rfl ?_)
    obtain ⟨g, h1, n1, e1⟩ := t_lcommon ⟨op, oq⟩
    obtain ⟨g2, h2, n2, e2⟩ := t_common ⟨op, oq⟩
    obtain ⟨g3, h3, n3, e3⟩ := t_common ⟨oq, op⟩
    obtain ⟨g4, h4, n4, e4⟩ := t_common ⟨op, op⟩
    obtain ⟨c, x, h5, F, x0⟩ := t_lfreed op.lead (by have := op.len; omega)
    have nx : Norm x := ⟨F.prim, x0⟩
    have ex : Eqv (co p) (co p) (co x) fun _ => 0 := (Eqv.of .fst .zero .fst .fst : Eqv (co p) (co p) (co p) fun _ => 0).trans (Eqv.swap.trans ((freed_eqv F).trans Eqv.swap))
    obtain rfl := norm_unique n2 n1 (e2.symm.trans e1)
    obtain rfl := norm_unique n3 n2 (e3.symm.trans (Eqv.swap.trans e2))
    obtain rfl := norm_unique n4 nx (e4.symm.trans ex)
    have lp := op.len
    have lq := oq.len
    have lg := norm_len n3 e3 oq.ne oq.lead
    have r1 := t_good h2 (by omega) (by omega)
    have r2 := t_good h3 (by omega) (by omega)
    have r3 := t_good h4 (by omega) (by have := F.len; omega)
    show Can _ [some (.frz (.scr ns)), none, some (oL p), some (oL q)] _
    refine can_seq (can_asg (oE_closed (o := oL g3) (by simp_arith [h1]) (closed_oL _)) ?_)
    exact can_ret (oE_closed (o := fB true) (by simp_arith [h5, r1, r2, r3]) rfl) rfl
  obtain ⟨o, h1, rfl⟩ := val_ex (R := fun _ => IsYes) hc
  exact h1
end Law
set_option maxHeartbeats 1000000
/-! the derivations, printed by gen.py -/
namespace Law
open PySem L2 Z
def topS (i : Nat) : Stmt := PySem.Challenge.pw_foreverrows_k44_common_parts.main.body.getD i (.Pass ⟨0, 0, 0, 0⟩)
structure Blt (mg : Str → Option Value) : Prop where
  z_abs : mg "abs" = none
  z_all : mg "all" = none
  z_bool : mg "bool" = none
  z_int : mg "int" = none
  z_isinstance : mg "isinstance" = none
  z_len : mg "len" = none
  z_list : mg "list" = none
  z_range : mg "range" = none
section
variable {P : Program} {w : World} {K : PySem.W.Frag} {mg : Str → Option Value} {base : Heap}
abbrev s__law_cell_at : Stmt := topS 7
theorem sc__law_cell_at : FnScope ["_law_script", "_law_k"] ["_law_script", "_law_k"] (defScope s__law_cell_at) := ⟨rfl, rfl, rfl, by decide +kernel, rfl, by decide +kernel, by decide +kernel⟩
theorem b__law_cell_at (T : Blt mg)  {f : Addr} : BodyOk P w K mg base ["_law_script", "_law_k"] "_law_cell_at" s__law_cell_at f 40 (w__law_cell_at ) := by
  intro cdv A outer s H E hr Z
  have nd := sc__law_cell_at.nd
  exact ⟨_, (ss_cons (ss_if (st_cmp z_lt (se_var 1) (se_blt b_len T.z_len (sa_cons (se_var 0) sa_nil))) (ss_one (ss_ret (so_e [0, 1] (se_idx (se_var 0) (se_var 1))))) ss_nil) (ss_one (ss_ret (so_e [] se_int))))⟩
abbrev s__law_big : Stmt := topS 8
theorem sc__law_big : FnScope ["_law_script", "_law_at", "_law_cell", "_law_primes", "_law_big_here", "_law_k", "_law_one"] ["_law_script", "_law_at"] (defScope s__law_big) := ⟨rfl, rfl, rfl, by decide +kernel, rfl, by decide +kernel, by decide +kernel⟩
theorem b__law_big (T : Blt mg) {v__law_cell_at : Fn} (f__law_cell_at : FnAt P w K mg base 41 "_law_cell_at" 2 v__law_cell_at) {f : Addr} : BodyOk P w K mg base ["_law_script", "_law_at", "_law_cell", "_law_primes", "_law_big_here", "_law_k", "_law_one"] "_law_big" s__law_big f 41 (w__law_big v__law_cell_at) := by
  intro cdv A outer s H E hr Z
  have nd := sc__law_big.nd
  exact ⟨_, (ss_cons (ss_set 2 nd (so_e [0, 1] (se_call f__law_cell_at (hr.mono (by decide)) (sa_cons (se_var 0) (sa_cons (se_var 1) sa_nil))))) (ss_cons (ss_if (st_cmp z_ge (se_var 2) (se_op z_pow se_int se_int)) (ss_one (ss_ret (so_mv 2))) ss_nil) (ss_cons (ss_set 3 nd (so_e [] (se_tup (sa_cons se_int (sa_cons se_int (sa_cons se_int (sa_cons se_int (sa_cons se_int (sa_cons se_int (sa_cons se_int (sa_cons se_int (sa_cons se_int sa_nil)))))))))))) (ss_cons (ss_set 4 nd (so_e [] se_int)) (ss_cons (ss_forR 5 PassesOwn.never rfl nd (sr_1 T.z_range se_int) (ss_cons (ss_set 6 nd (so_e [0, 1, 5] (se_op z_add (se_op z_add (se_op z_mod (se_call f__law_cell_at (hr.mono (by decide)) (sa_cons (se_var 0) (sa_cons (se_op z_add (se_var 1) (se_op z_mod (se_var 5) se_int)) sa_nil))) (se_op z_pow se_int se_int)) (se_op z_mul se_int (se_var 5))) se_int))) (ss_one (ss_set 4 nd (so_e [3, 4, 5, 6] (se_op z_add (se_op z_mul (se_var 4) se_int) (se_op z_mod (se_op z_mul (se_op z_mod (se_op z_add (se_op z_mul (se_var 6) (se_var 6)) (se_op z_mul se_int (se_var 5))) (se_idx (se_var 3) (se_op z_mod (se_var 5) se_int))) (se_op z_add (se_var 5) se_int)) se_int))))))) (ss_one (ss_ret (so_mv 4))))))))⟩
abbrev s__law_number : Stmt := topS 14
theorem sc__law_number : FnScope ["_law_big_here", "_law_figures", "_law_way", "_law_most"] ["_law_big_here", "_law_figures"] (defScope s__law_number) := ⟨rfl, rfl, rfl, by decide +kernel, rfl, by decide +kernel, by decide +kernel⟩
theorem b__law_number (T : Blt mg)  {f : Addr} : BodyOk P w K mg base ["_law_big_here", "_law_figures", "_law_way", "_law_most"] "_law_number" s__law_number f 40 (w__law_number ) := by
  intro cdv A outer s H E hr Z
  have nd := sc__law_number.nd
  exact ⟨_, (ss_cons (ss_set 2 nd (so_e [0] (se_op z_mod (se_var 0) se_int))) (ss_cons (ss_set 0 nd (so_e [0] (se_op (z_fdiv Z) (se_var 0) se_int))) (ss_cons (ss_if (st_cmp (z_eq hr.units) (se_var 2) se_int) (ss_cons (ss_set 3 nd (so_e [1] (se_if (st_cmp z_gt (se_var 1) se_int) (se_op z_pow se_int se_int) (se_op z_pow se_int se_int)))) (ss_one (ss_ret (so_e [0, 3] (se_tup (sa_cons (se_op z_add (se_op z_sub (se_op z_mod (se_var 0) (se_op z_sub (se_op z_mul se_int (se_var 3)) se_int)) (se_var 3)) se_int) (sa_cons (se_op (z_fdiv Z) (se_var 0) (se_op z_sub (se_op z_mul se_int (se_var 3)) se_int)) sa_nil))))))) ss_nil) (ss_one (ss_ret (so_e [0] (se_tup (sa_cons (se_op z_sub (se_op z_mod (se_var 0) se_int) se_int) (sa_cons (se_op (z_fdiv Z) (se_var 0) se_int) sa_nil)))))))))⟩
abbrev s__law_poly : Stmt := topS 15
theorem sc__law_poly : FnScope ["_law_big_here", "_law_most", "_law_figures", "_law_size", "_law_numbers", "_law_k", "_law_number_here"] ["_law_big_here", "_law_most", "_law_figures"] (defScope s__law_poly) := ⟨rfl, rfl, rfl, by decide +kernel, rfl, by decide +kernel, by decide +kernel⟩
theorem b__law_poly (T : Blt mg) {v__law_number : Fn} (f__law_number : FnAt P w K mg base 41 "_law_number" 2 v__law_number) {f : Addr} : BodyOk P w K mg base ["_law_big_here", "_law_most", "_law_figures", "_law_size", "_law_numbers", "_law_k", "_law_number_here"] "_law_poly" s__law_poly f 41 (w__law_poly v__law_number) := by
  intro cdv A outer s H E hr Z
  have nd := sc__law_poly.nd
  exact ⟨_, (ss_cons (ss_set 3 nd (so_e [0, 1] (se_op z_add se_int (se_op z_mod (se_var 0) (se_var 1))))) (ss_cons (ss_set 0 nd (so_e [0, 1] (se_op (z_fdiv Z) (se_var 0) (se_var 1)))) (ss_cons (ss_set 4 nd (so_e [] (se_lst sa_nil))) (ss_cons (ss_forR 5 PassesOwn.never rfl nd (sr_1 T.z_range (se_var 3)) (ss_cons (ss_unp rfl (sus_cons 6 nd (sus_cons 0 nd sus_nil)) (so_e [0, 2] (se_call f__law_number (hr.mono (by decide)) (sa_cons (se_var 0) (sa_cons (se_var 2) sa_nil))))) (ss_one (ss_app 4 (so_e [6] (se_var 6)))))) (ss_cons (ss_if (st_cmp (z_eq hr.units) (se_idx (se_var 4) (se_neg se_int)) se_int) (ss_one (ss_setIx 4 (se_neg se_int) (so_e [0] (se_op z_sub se_int (se_op z_mul se_int (se_op z_mod (se_var 0) se_int)))))) ss_nil) (ss_one (ss_ret (so_mv 4))))))))⟩
abbrev s__law_times : Stmt := topS 16
theorem sc__law_times : FnScope ["_law_one", "_law_other", "_law_found", "_law_i", "_law_j", "_law_k"] ["_law_one", "_law_other"] (defScope s__law_times) := ⟨rfl, rfl, rfl, by decide +kernel, rfl, by decide +kernel, by decide +kernel⟩
theorem b__law_times (T : Blt mg)  {f : Addr} : BodyOk P w K mg base ["_law_one", "_law_other", "_law_found", "_law_i", "_law_j", "_law_k"] "_law_times" s__law_times f 40 (w__law_times ) := by
  intro cdv A outer s H E hr Z
  have nd := sc__law_times.nd
  have hblk : ∀ {scope : Scope} {own : List (Str × Nat)}, blkC ["_law_one", "_law_other", "_law_found", "_law_i", "_law_j", "_law_k"] (defScope s__law_times) scope own = true → blkC ["_law_one", "_law_other", "_law_found", "_law_i", "_law_j", "_law_k"] (defScope s__law_times) scope own = true := fun h => h
  exact ⟨_, (ss_cons (ss_setLc 2 [0, 1, 5] [("_law_k", 5)] rfl nd (si_rng1 T.z_range (se_op z_sub (se_op z_add (se_blt b_len T.z_len (sa_cons (se_var 0) sa_nil)) (se_blt b_len T.z_len (sa_cons (se_var 1) sa_nil))) se_int)) (fun _ _ _ _ _ => (sg_name 5 nd)) (fun _ _ _ _ _ => sts_nil) (fun _ _ _ _ _ => se_int) (ho := hblk (by decide +kernel))) (ss_cons (ss_forR 3 PassesOwn.never rfl nd (sr_1 T.z_range (se_blt b_len T.z_len (sa_cons (se_var 0) sa_nil))) (ss_one (ss_forR 4 PassesOwn.never rfl nd (sr_1 T.z_range (se_blt b_len T.z_len (sa_cons (se_var 1) sa_nil))) (ss_one (ss_augIx 2 g_add (se_op z_add (se_var 3) (se_var 4)) (se_op z_mul (se_idx (se_var 0) (se_var 3)) (se_idx (se_var 1) (se_var 4)))))))) (ss_one (ss_ret (so_mv 2)))))⟩
abbrev s__law_pair : Stmt := topS 17
theorem sc__law_pair : FnScope ["_law_script", "_law_way", "_law_part", "_law_one", "_law_other", "_law_number_here"] ["_law_script"] (defScope s__law_pair) := ⟨rfl, rfl, rfl, by decide +kernel, rfl, by decide +kernel, by decide +kernel⟩
theorem b__law_pair (T : Blt mg) {v__law_big : Fn} (f__law_big : FnAt P w K mg base 42 "_law_big" 2 v__law_big) {v__law_poly : Fn} (f__law_poly : FnAt P w K mg base 42 "_law_poly" 3 v__law_poly) {v__law_times : Fn} (f__law_times : FnAt P w K mg base 41 "_law_times" 2 v__law_times) {f : Addr} : BodyOk P w K mg base ["_law_script", "_law_way", "_law_part", "_law_one", "_law_other", "_law_number_here"] "_law_pair" s__law_pair f 42 (w__law_pair v__law_big v__law_poly v__law_times) := by
  intro cdv A outer s H E hr Z
  have nd := sc__law_pair.nd
  have hblk : ∀ {scope : Scope} {own : List (Str × Nat)}, blkC ["_law_script", "_law_way", "_law_part", "_law_one", "_law_other", "_law_number_here"] (defScope s__law_pair) scope own = true → blkC ["_law_script", "_law_way", "_law_part", "_law_one", "_law_other", "_law_number_here"] (defScope s__law_pair) scope own = true := fun h => h
  exact ⟨_, (ss_cons (ss_set 1 nd (so_e [0] (se_call f__law_big (hr.mono (by decide)) (sa_cons (se_var 0) (sa_cons se_int sa_nil))))) (ss_cons (ss_if (st_cmp (z_eq hr.units) (se_op z_mod (se_var 1) se_int) se_int) (ss_one (ss_ret (so_e [0] (se_tup (sa_cons (se_call f__law_poly (hr.mono (by decide)) (sa_cons (se_call f__law_big (hr.mono (by decide)) (sa_cons (se_var 0) (sa_cons se_int sa_nil))) (sa_cons se_int (sa_cons se_int sa_nil)))) (sa_cons (se_call f__law_poly (hr.mono (by decide)) (sa_cons (se_call f__law_big (hr.mono (by decide)) (sa_cons (se_var 0) (sa_cons se_int sa_nil))) (sa_cons se_int (sa_cons se_int sa_nil)))) sa_nil)))))) ss_nil) (ss_cons (ss_set 2 nd (so_e [0] (se_call f__law_poly (hr.mono (by decide)) (sa_cons (se_call f__law_big (hr.mono (by decide)) (sa_cons (se_var 0) (sa_cons se_int sa_nil))) (sa_cons se_int (sa_cons se_int sa_nil)))))) (ss_cons (ss_set 3 nd (so_e [0, 2] (se_call f__law_times (hr.mono (by decide)) (sa_cons (se_var 2) (sa_cons (se_call f__law_poly (hr.mono (by decide)) (sa_cons (se_call f__law_big (hr.mono (by decide)) (sa_cons (se_var 0) (sa_cons se_int sa_nil))) (sa_cons se_int (sa_cons se_int sa_nil)))) sa_nil))))) (ss_cons (ss_set 4 nd (so_e [0, 2] (se_call f__law_times (hr.mono (by decide)) (sa_cons (se_var 2) (sa_cons (se_call f__law_poly (hr.mono (by decide)) (sa_cons (se_call f__law_big (hr.mono (by decide)) (sa_cons (se_var 0) (sa_cons se_int sa_nil))) (sa_cons se_int (sa_cons se_int sa_nil)))) sa_nil))))) (ss_cons (ss_if (st_cmp (z_eq hr.units) (se_op z_mod (se_op (z_fdiv Z) (se_var 1) se_int) se_int) se_int) (ss_one (ss_setLc 4 [1, 3, 5] [("_law_number_here", 5)] rfl nd (si_lst (se_var 3)) (fun _ _ _ _ _ => (sg_name 5 nd)) (fun _ _ _ _ _ => sts_nil) (fun _ _ _ _ _ => (se_op z_mul (se_var 5) (se_op z_add (se_neg se_int) (se_op z_mul se_int (se_op z_mod (se_op (z_fdiv Z) (se_var 1) se_int) se_int))))) (ho := hblk (by decide +kernel)))) ss_nil) (ss_one (ss_ret (so_tup (sos_cons (so_mv 3) (sos_cons (so_mv 4) sos_nil)))))))))))⟩
abbrev s__law_freed : Stmt := topS 11
theorem sc__law_freed : FnScope ["_law_numbers", "_law_part", "_law_number_here", "_law_other"] ["_law_numbers"] (defScope s__law_freed) := ⟨rfl, rfl, rfl, by decide +kernel, rfl, by decide +kernel, by decide +kernel⟩
theorem b__law_freed (T : Blt mg)  {f : Addr} : BodyOk P w K mg base ["_law_numbers", "_law_part", "_law_number_here", "_law_other"] "_law_freed" s__law_freed f 40 (w__law_freed ) := by
  intro cdv A outer s H E hr Z
  have nd := sc__law_freed.nd
  have hblk : ∀ {scope : Scope} {own : List (Str × Nat)}, blkC ["_law_numbers", "_law_part", "_law_number_here", "_law_other"] (defScope s__law_freed) scope own = true → blkC ["_law_numbers", "_law_part", "_law_number_here", "_law_other"] (defScope s__law_freed) scope own = true := fun h => h
  exact ⟨_, (ss_cons (ss_set 1 nd (so_e [] se_int)) (ss_cons (ss_for [0] PassesOwn.never rfl (si_lst (se_var 0)) (sh_name 2 nd) (ss_cons (ss_set 3 nd (so_e [2] (se_blt b_abs T.z_abs (sa_cons (se_var 2) sa_nil)))) (ss_one (ss_while PassesOwn.never (st_cmp z_gt (se_var 3) se_int) (ss_one (ss_unp rfl (sus_cons 1 nd (sus_cons 3 nd sus_nil)) (so_e [1, 3] (se_tup (sa_cons (se_var 3) (sa_cons (se_op z_mod (se_var 1) (se_var 3)) sa_nil)))))))))) (ss_cons (ss_if (st_cmp z_lt (se_idx (se_var 0) (se_neg se_int)) se_int) (ss_one (ss_set 1 nd (so_e [1] (se_neg (se_var 1))))) ss_nil) (ss_one (ss_ret (so_e [0, 1, 2] (se_comp [("_law_number_here", 2)] rfl nd (si_lst (se_var 0)) (fun _ _ _ _ _ => (sg_name 2 nd)) (fun _ _ _ _ _ => sts_nil) (fun _ _ _ _ _ => (se_op (z_fdiv Z) (se_var 2) (se_var 1))) (ho := hblk (by decide +kernel)))))))))⟩
abbrev s__law_trim : Stmt := topS 10
theorem sc__law_trim : FnScope ["_law_numbers"] ["_law_numbers"] (defScope s__law_trim) := ⟨rfl, rfl, rfl, by decide +kernel, rfl, by decide +kernel, by decide +kernel⟩
theorem b__law_trim (T : Blt mg)  {f : Addr} : BodyOk P w K mg base ["_law_numbers"] "_law_trim" s__law_trim f 40 (w__law_trim ) := by
  intro cdv A outer s H E hr Z
  have nd := sc__law_trim.nd
  exact ⟨_, (ss_cons (ss_set 0 nd (so_e [0] (se_bty b_list T.z_list (sa_cons (se_var 0) sa_nil)))) (ss_cons (ss_while PassesOwn.never (sw_and (st_cmp (z_ne hr.units) (se_var 0) (se_lst sa_nil)) (sw_and1 (st_cmp (z_eq hr.units) (se_idx (se_var 0) (se_neg se_int)) se_int))).st (ss_one (ss_pop 0))) (ss_one (ss_ret (so_mv 0)))))⟩
abbrev s__law_rest : Stmt := topS 12
theorem sc__law_rest : FnScope ["_law_one", "_law_other", "_law_rest_here", "_law_lead", "_law_shift", "_law_k", "_law_number_here"] ["_law_one", "_law_other"] (defScope s__law_rest) := ⟨rfl, rfl, rfl, by decide +kernel, rfl, by decide +kernel, by decide +kernel⟩
theorem b__law_rest (T : Blt mg) {v__law_trim : Fn} (f__law_trim : FnAt P w K mg base 41 "_law_trim" 1 v__law_trim) {f : Addr} : BodyOk P w K mg base ["_law_one", "_law_other", "_law_rest_here", "_law_lead", "_law_shift", "_law_k", "_law_number_here"] "_law_rest" s__law_rest f 41 (w__law_rest v__law_trim) := by
  intro cdv A outer s H E hr Z
  have nd := sc__law_rest.nd
  have hblk : ∀ {scope : Scope} {own : List (Str × Nat)}, blkC ["_law_one", "_law_other", "_law_rest_here", "_law_lead", "_law_shift", "_law_k", "_law_number_here"] (defScope s__law_rest) scope own = true → blkC ["_law_one", "_law_other", "_law_rest_here", "_law_lead", "_law_shift", "_law_k", "_law_number_here"] (defScope s__law_rest) scope own = true := fun h => h
  exact ⟨_, (ss_cons (ss_set 2 nd (so_e [0] (se_bty b_list T.z_list (sa_cons (se_var 0) sa_nil)))) (ss_cons (ss_while PassesOwn.never (st_cmp z_ge (se_blt b_len T.z_len (sa_cons (se_var 2) sa_nil)) (se_blt b_len T.z_len (sa_cons (se_var 1) sa_nil))) (ss_cons (ss_set 3 nd (so_e [2] (se_idx (se_var 2) (se_neg se_int)))) (ss_cons (ss_set 4 nd (so_e [1, 2] (se_op z_sub (se_blt b_len T.z_len (sa_cons (se_var 2) sa_nil)) (se_blt b_len T.z_len (sa_cons (se_var 1) sa_nil))))) (ss_cons (ss_setLc 2 [1, 2, 6] [("_law_number_here", 6)] rfl nd (si_lst (se_var 2)) (fun _ _ _ _ _ => (sg_name 6 nd)) (fun _ _ _ _ _ => sts_nil) (fun _ _ _ _ _ => (se_op z_mul (se_op z_mul (se_var 6) (se_idx (se_var 1) (se_neg se_int))) (se_idx (se_var 1) (se_neg se_int)))) (ho := hblk (by decide +kernel))) (ss_cons (ss_forR 5 PassesOwn.never rfl nd (sr_1 T.z_range (se_blt b_len T.z_len (sa_cons (se_var 1) sa_nil))) (ss_one (ss_augIx 2 g_sub (se_op z_add (se_var 4) (se_var 5)) (se_op z_mul (se_op z_mul (se_var 3) (se_idx (se_var 1) (se_neg se_int))) (se_idx (se_var 1) (se_var 5)))))) (ss_one (ss_pop 2))))))) (ss_one (ss_ret (so_e [2] (se_call f__law_trim (hr.mono (by decide)) (sa_cons (se_var 2) sa_nil)))))))⟩
abbrev s__law_common : Stmt := topS 13
theorem sc__law_common : FnScope ["_law_one", "_law_other", "_law_rest_here"] ["_law_one", "_law_other"] (defScope s__law_common) := ⟨rfl, rfl, rfl, by decide +kernel, rfl, by decide +kernel, by decide +kernel⟩
theorem b__law_common (T : Blt mg) {v__law_rest : Fn} (f__law_rest : FnAt P w K mg base 42 "_law_rest" 2 v__law_rest) {v__law_freed : Fn} (f__law_freed : FnAt P w K mg base 41 "_law_freed" 1 v__law_freed) {f : Addr} : BodyOk P w K mg base ["_law_one", "_law_other", "_law_rest_here"] "_law_common" s__law_common f 42 (w__law_common v__law_rest v__law_freed) := by
  intro cdv A outer s H E hr Z
  have nd := sc__law_common.nd
  exact ⟨_, (ss_cons (ss_while PassesOwn.never (st_cmp (z_ne hr.units) (se_var 1) (se_lst sa_nil)) (ss_cons (ss_set 2 nd (so_e [0, 1] (se_call f__law_rest (hr.mono (by decide)) (sa_cons (se_var 0) (sa_cons (se_var 1) sa_nil))))) (ss_cons (ss_if (st_cmp (z_ne hr.units) (se_var 2) (se_lst sa_nil)) (ss_one (ss_set 2 nd (so_e [2] (se_call f__law_freed (hr.mono (by decide)) (sa_cons (se_var 2) sa_nil))))) ss_nil) (ss_one (ss_par 0 1 rfl nd (sos_cons (so_e [1] (se_var 1)) (sos_cons (so_e [2] (se_var 2)) sos_nil))))))) (ss_one (ss_ret (so_e [0] (se_call f__law_freed (hr.mono (by decide)) (sa_cons (se_var 0) sa_nil))))))⟩
abbrev s_common_divisor : Stmt := topS 2
theorem sc_common_divisor : FnScope ["numbers", "found", "number", "other"] ["numbers"] (defScope s_common_divisor) := ⟨rfl, rfl, rfl, by decide +kernel, rfl, by decide +kernel, by decide +kernel⟩
theorem b_common_divisor (T : Blt mg)  {f : Addr} : BodyOk P w K mg base ["numbers", "found", "number", "other"] "common_divisor" s_common_divisor f 40 (w_common_divisor ) := by
  intro cdv A outer s H E hr Z
  have nd := sc_common_divisor.nd
  exact ⟨_, (ss_cons (ss_set 1 nd (so_e [] se_int)) (ss_cons (ss_for [0] PassesOwn.never rfl (si_lst (se_var 0)) (sh_name 2 nd) (ss_cons (ss_set 3 nd (so_e [2] (se_blt b_abs T.z_abs (sa_cons (se_var 2) sa_nil)))) (ss_one (ss_while PassesOwn.never (st_cmp z_gt (se_var 3) se_int) (ss_one (ss_par 1 3 rfl nd (sos_cons (so_e [3] (se_var 3)) (sos_cons (so_e [1, 3] (se_op z_mod (se_var 1) (se_var 3))) sos_nil)))))))) (ss_one (ss_ret (so_mv 1)))))⟩
abbrev s_freed : Stmt := topS 3
theorem sc_freed : FnScope ["numbers", "divisor", "number"] ["numbers"] (defScope s_freed) := ⟨rfl, rfl, rfl, by decide +kernel, rfl, by decide +kernel, by decide +kernel⟩
theorem b_freed (T : Blt mg) {v_common_divisor : Fn} (f_common_divisor : FnAt P w K mg base 41 "common_divisor" 1 v_common_divisor) {f : Addr} : BodyOk P w K mg base ["numbers", "divisor", "number"] "freed" s_freed f 41 (w_freed v_common_divisor) := by
  intro cdv A outer s H E hr Z
  have nd := sc_freed.nd
  have hblk : ∀ {scope : Scope} {own : List (Str × Nat)}, blkC ["numbers", "divisor", "number"] (defScope s_freed) scope own = true → blkC ["numbers", "divisor", "number"] (defScope s_freed) scope own = true := fun h => h
  exact ⟨_, (ss_cons (ss_set 1 nd (so_e [0] (se_call f_common_divisor (hr.mono (by decide)) (sa_cons (se_var 0) sa_nil)))) (ss_one (ss_ret (so_e [0, 1, 2] (se_comp [("number", 2)] rfl nd (si_lst (se_var 0)) (fun _ _ _ _ _ => (sg_name 2 nd)) (fun _ _ _ _ _ => sts_nil) (fun _ _ _ _ _ => (se_op (z_fdiv Z) (se_var 2) (se_var 1))) (ho := hblk (by decide +kernel)))))))⟩
abbrev s_trimmed : Stmt := topS 1
theorem sc_trimmed : FnScope ["numbers", "end"] ["numbers"] (defScope s_trimmed) := ⟨rfl, rfl, rfl, by decide +kernel, rfl, by decide +kernel, by decide +kernel⟩
theorem b_trimmed (T : Blt mg)  {f : Addr} : BodyOk P w K mg base ["numbers", "end"] "trimmed" s_trimmed f 40 (w_trimmed ) := by
  intro cdv A outer s H E hr Z
  have nd := sc_trimmed.nd
  exact ⟨_, (ss_cons (ss_set 1 nd (so_e [0] (se_blt b_len T.z_len (sa_cons (se_var 0) sa_nil)))) (ss_cons (ss_while PassesOwn.never (sw_and (st_cmp z_gt (se_var 1) se_int) (sw_and1 (st_cmp (z_eq hr.units) (se_idx (se_var 0) (se_op z_sub (se_var 1) se_int)) se_int))).st (ss_one (ss_aug 1 g_sub nd se_int))) (ss_one (ss_ret (so_e [0, 1] (se_cut (se_var 0) so_none (so_some (se_var 1))))))))⟩
abbrev s_parted : Stmt := topS 4
theorem sc_parted : FnScope ["one", "other", "rest", "often", "lead", "factor", "shift", "k", "number"] ["one", "other"] (defScope s_parted) := ⟨rfl, rfl, rfl, by decide +kernel, rfl, by decide +kernel, by decide +kernel⟩
theorem b_parted (T : Blt mg) {v_trimmed : Fn} (f_trimmed : FnAt P w K mg base 41 "trimmed" 1 v_trimmed) {f : Addr} : BodyOk P w K mg base ["one", "other", "rest", "often", "lead", "factor", "shift", "k", "number"] "parted" s_parted f 41 (w_parted v_trimmed) := by
  intro cdv A outer s H E hr Z
  have nd := sc_parted.nd
  have hblk : ∀ {scope : Scope} {own : List (Str × Nat)}, blkC ["one", "other", "rest", "often", "lead", "factor", "shift", "k", "number"] (defScope s_parted) scope own = true → blkC ["one", "other", "rest", "often", "lead", "factor", "shift", "k", "number"] (defScope s_parted) scope own = true := fun h => h
  exact ⟨_, (ss_cons (ss_set 2 nd (so_e [0] (se_bty b_list T.z_list (sa_cons (se_var 0) sa_nil)))) (ss_cons (ss_set 3 nd (so_e [] (se_lst sa_nil))) (ss_cons (ss_set 4 nd (so_e [1] (se_blt b_abs T.z_abs (sa_cons (se_idx (se_var 1) (se_neg se_int)) sa_nil)))) (ss_cons (ss_while PassesOwn.never (st_cmp z_ge (se_blt b_len T.z_len (sa_cons (se_var 2) sa_nil)) (se_blt b_len T.z_len (sa_cons (se_var 1) sa_nil))) (ss_cons (ss_set 5 nd (so_e [2] (se_idx (se_var 2) (se_neg se_int)))) (ss_cons (ss_if (st_cmp z_lt (se_idx (se_var 1) (se_neg se_int)) se_int) (ss_one (ss_set 5 nd (so_e [5] (se_neg (se_var 5))))) ss_nil) (ss_cons (ss_set 3 nd (so_e [3, 4, 5, 8] (se_op z_add (se_comp [("number", 8)] rfl nd (si_lst (se_var 3)) (fun _ _ _ _ _ => (sg_name 8 nd)) (fun _ _ _ _ _ => sts_nil) (fun _ _ _ _ _ => (se_op z_mul (se_var 8) (se_var 4))) (ho := hblk (by decide +kernel))) (se_lst (sa_cons (se_var 5) sa_nil))))) (ss_cons (ss_set 6 nd (so_e [1, 2] (se_op z_sub (se_blt b_len T.z_len (sa_cons (se_var 2) sa_nil)) (se_blt b_len T.z_len (sa_cons (se_var 1) sa_nil))))) (ss_cons (ss_setLc 2 [2, 4, 8] [("number", 8)] rfl nd (si_lst (se_var 2)) (fun _ _ _ _ _ => (sg_name 8 nd)) (fun _ _ _ _ _ => sts_nil) (fun _ _ _ _ _ => (se_op z_mul (se_var 8) (se_var 4))) (ho := hblk (by decide +kernel))) (ss_cons (ss_forR 7 PassesOwn.never rfl nd (sr_1 T.z_range (se_blt b_len T.z_len (sa_cons (se_var 1) sa_nil))) (ss_one (ss_augIx 2 g_sub (se_op z_add (se_var 6) (se_var 7)) (se_op z_mul (se_var 5) (se_idx (se_var 1) (se_var 7)))))) (ss_one (ss_pop 2))))))))) (ss_one (ss_ret (so_e [2, 3] (se_tup (sa_cons (se_call f_trimmed (hr.mono (by decide)) (sa_cons (se_var 2) sa_nil)) (sa_cons (se_rev (se_var 3)) sa_nil))))))))))⟩
abbrev s_common_part : Stmt := topS 5
theorem sc_common_part : FnScope ["one", "other", "first", "second", "rest", "number"] ["one", "other"] (defScope s_common_part) := ⟨rfl, rfl, rfl, by decide +kernel, rfl, by decide +kernel, by decide +kernel⟩
theorem b_common_part (T : Blt mg) {v_parted : Fn} (f_parted : FnAt P w K mg base 42 "parted" 2 v_parted) {v_freed : Fn} (f_freed : FnAt P w K mg base 42 "freed" 1 v_freed) {f : Addr} : BodyOk P w K mg base ["one", "other", "first", "second", "rest", "number"] "common_part" s_common_part f 42 (w_common_part v_parted v_freed) := by
  intro cdv A outer s H E hr Z
  have nd := sc_common_part.nd
  have hblk : ∀ {scope : Scope} {own : List (Str × Nat)}, blkC ["one", "other", "first", "second", "rest", "number"] (defScope s_common_part) scope own = true → blkC ["one", "other", "first", "second", "rest", "number"] (defScope s_common_part) scope own = true := fun h => h
  exact ⟨_, (ss_cons (ss_par 2 3 rfl nd (sos_cons (so_e [0] (se_bty b_list T.z_list (sa_cons (se_var 0) sa_nil))) (sos_cons (so_e [1] (se_bty b_list T.z_list (sa_cons (se_var 1) sa_nil))) sos_nil))) (ss_cons (ss_while PassesOwn.never (st_cmp (z_ne hr.units) (se_var 3) (se_lst sa_nil)) (ss_cons (ss_set 4 nd (so_e [2, 3] (se_idx (se_call f_parted (hr.mono (by decide)) (sa_cons (se_var 2) (sa_cons (se_var 3) sa_nil))) se_int))) (ss_cons (ss_if (st_cmp (z_ne hr.units) (se_var 4) (se_lst sa_nil)) (ss_one (ss_set 4 nd (so_e [4] (se_call f_freed (hr.mono (by decide)) (sa_cons (se_var 4) sa_nil))))) ss_nil) (ss_one (ss_par 2 3 rfl nd (sos_cons (so_e [3] (se_var 3)) (sos_cons (so_e [4] (se_var 4)) sos_nil))))))) (ss_cons (ss_set 2 nd (so_e [2] (se_call f_freed (hr.mono (by decide)) (sa_cons (se_var 2) sa_nil)))) (ss_cons (ss_if (st_cmp z_lt (se_idx (se_var 2) (se_neg se_int)) se_int) (ss_one (ss_ret (so_e [2, 5] (se_comp [("number", 5)] rfl nd (si_lst (se_var 2)) (fun _ _ _ _ _ => (sg_name 5 nd)) (fun _ _ _ _ _ => sts_nil) (fun _ _ _ _ _ => (se_neg (se_var 5))) (ho := hblk (by decide +kernel)))))) ss_nil) (ss_one (ss_ret (so_mv 2)))))))⟩
abbrev s__law_whole : Stmt := topS 9
theorem sc__law_whole : FnScope ["_law_found"] ["_law_found"] (defScope s__law_whole) := ⟨rfl, rfl, rfl, by decide +kernel, rfl, by decide +kernel, by decide +kernel⟩
theorem b__law_whole (T : Blt mg)  {f : Addr} : BodyOk P w K mg base ["_law_found"] "_law_whole" s__law_whole f 40 (w__law_whole ) := by
  intro cdv A outer s H E hr Z
  have nd := sc__law_whole.nd
  exact ⟨_, (ss_one (ss_ret (so_e [0] (se_and (se_isi (se_var 0) T.z_isinstance T.z_int) (se_one (se_not (se_isi (se_var 0) T.z_isinstance T.z_bool)))))))⟩
abbrev s__law_good : Stmt := topS 18
theorem sc__law_good : FnScope ["_law_one", "_law_other", "_law_due", "_law_turn", "_law_told", "_law_first", "_law_second", "_law_number_here"] ["_law_one", "_law_other", "_law_due"] (defScope s__law_good) := ⟨rfl, rfl, rfl, by decide +kernel, rfl, by decide +kernel, by decide +kernel⟩
theorem b__law_good (T : Blt mg) {v_common_part : Fn} (f_common_part : FnAt P w K mg base 43 "common_part" 2 v_common_part) {v__law_whole : Fn} (f__law_whole : FnAt P w K mg base 41 "_law_whole" 1 v__law_whole) {f : Addr} : BodyOk P w K mg base ["_law_one", "_law_other", "_law_due", "_law_turn", "_law_told", "_law_first", "_law_second", "_law_number_here"] "_law_good" s__law_good f 43 (w__law_good v_common_part v__law_whole) := by
  intro cdv A outer s H E hr Z
  have nd := sc__law_good.nd
  have hblk : ∀ {scope : Scope} {own : List (Str × Nat)}, blkC ["_law_one", "_law_other", "_law_due", "_law_turn", "_law_told", "_law_first", "_law_second", "_law_number_here"] (defScope s__law_good) scope own = true → blkC ["_law_one", "_law_other", "_law_due", "_law_turn", "_law_told", "_law_first", "_law_second", "_law_number_here"] (defScope s__law_good) scope own = true := fun h => h
  exact ⟨_, (ss_cons (ss_forR 3 PassesOwn.never rfl nd (sr_1 T.z_range se_int) (ss_cons (ss_par 5 6 rfl nd (sos_cons (so_e [0] (se_bty b_list T.z_list (sa_cons (se_var 0) sa_nil))) (sos_cons (so_e [1] (se_bty b_list T.z_list (sa_cons (se_var 1) sa_nil))) sos_nil))) (ss_cons (ss_set 4 nd (so_e [5, 6] (se_call f_common_part (hr.mono (by decide)) (sa_cons (se_var 5) (sa_cons (se_var 6) sa_nil))))) (ss_cons (ss_if (sw_or (st_cmp (z_ne hr.units) (se_var 5) (se_var 0)) (sw_or (st_cmp (z_ne hr.units) (se_var 6) (se_var 1)) (sw_or1 (st_not (st_val (se_isi (se_var 4) T.z_isinstance T.z_list)))))).st (ss_one (ss_ret (so_e [] se_bl))) ss_nil) (ss_cons (ss_if (sw_or (st_not (st_val (se_blt (b_all rfl) T.z_all (sa_cons (se_comp [("_law_number_here", 7)] rfl nd (si_lst (se_var 4)) (fun _ _ _ _ _ => (sg_name 7 nd)) (fun _ _ _ _ _ => sts_nil) (fun _ _ _ _ _ => (se_call f__law_whole (hr.mono (by decide)) (sa_cons (se_var 7) sa_nil))) (ho := hblk (by decide +kernel))) sa_nil)))) (sw_or1 (st_cmp (z_ne hr.units) (se_var 4) (se_var 2)))).st (ss_one (ss_ret (so_e [] se_bl))) ss_nil) (ss_cons (ss_app 4 (so_e [] se_int)) (ss_cons (ss_if (sw_or (st_cmp (z_ne hr.units) (se_var 5) (se_var 0)) (sw_or1 (st_cmp (z_ne hr.units) (se_var 6) (se_var 1)))).st (ss_one (ss_ret (so_e [] se_bl))) ss_nil) (ss_one (ss_app 5 (so_e [] se_int)))))))))) (ss_one (ss_ret (so_e [] se_bl))))⟩
abbrev s_law : Stmt := topS 19
theorem sc_law : FnScope ["_law_script", "_law_due", "_law_one", "_law_other"] ["_law_script"] (defScope s_law) := ⟨rfl, rfl, rfl, by decide +kernel, rfl, by decide +kernel, by decide +kernel⟩
theorem b_law (T : Blt mg) {v__law_pair : Fn} (f__law_pair : FnAt P w K mg base 43 "_law_pair" 1 v__law_pair) {v__law_common : Fn} (f__law_common : FnAt P w K mg base 43 "_law_common" 2 v__law_common) {v__law_good : Fn} (f__law_good : FnAt P w K mg base 44 "_law_good" 3 v__law_good) {v__law_freed : Fn} (f__law_freed : FnAt P w K mg base 41 "_law_freed" 1 v__law_freed) {f : Addr} : BodyOk P w K mg base ["_law_script", "_law_due", "_law_one", "_law_other"] "law" s_law f 44 (w_law v__law_pair v__law_common v__law_good v__law_freed) := by
  intro cdv A outer s H E hr Z
  have nd := sc_law.nd
  exact ⟨_, (ss_cons (ss_unp rfl (sus_cons 2 nd (sus_cons 3 nd sus_nil)) (so_e [0] (se_call f__law_pair (hr.mono (by decide)) (sa_cons (se_var 0) sa_nil)))) (ss_cons (ss_set 1 nd (so_e [2, 3] (se_call f__law_common (hr.mono (by decide)) (sa_cons (se_var 2) (sa_cons (se_var 3) sa_nil))))) (ss_one (ss_ret (so_e [1, 2, 3] (se_and (se_call f__law_good (hr.mono (by decide)) (sa_cons (se_var 2) (sa_cons (se_var 3) (sa_cons (se_var 1) sa_nil)))) (se_and (se_call f__law_good (hr.mono (by decide)) (sa_cons (se_var 3) (sa_cons (se_var 2) (sa_cons (se_var 1) sa_nil)))) (se_one (se_call f__law_good (hr.mono (by decide)) (sa_cons (se_var 2) (sa_cons (se_var 2) (sa_cons (se_call f__law_freed (hr.mono (by decide)) (sa_cons (se_var 2) sa_nil)) sa_nil))))))))))))⟩
end
end Law
/-! what the top has written; the head -/
namespace Law
open PySem L2 Z
theorem all_mk {l : PySem.W.OpenLaw} {w : World} {K : PySem.W.Frag} {h : Heap} {mg : Str → Option Value} {fa : Addr} (ht : l.prog.given.tree = none) (X : K.In h) (G : h.Ns mainGlobals mg) (hfa : mg "law" = some (.ref fa))
    {f0 : Addr} {od0 an0 : Option Addr} {sl0 : Array (Option Value)} {oc0 kV0 dc0 pm0 cd0 ct0 : Value}
    (a0 : PySem.W.nsIn K mainGlobals "_law_cell_at" = some (some (.ref f0))) (l0 : K.lookup f0 = some ⟨oc0, od0, .func (PySem.W.fnOf "_law_cell_at" "_law_cell_at" (defArgs s__law_cell_at) (defBody s__law_cell_at) (defScope s__law_cell_at) .none kV0 dc0 pm0 an0 cd0 ct0), sl0⟩) (c0 : PySem.W.codeIn K cd0 "_law_cell_at" = true) (k0 : PySem.W.keepIn K (.ref f0) = true)
    {f1 : Addr} {od1 an1 : Option Addr} {sl1 : Array (Option Value)} {oc1 kV1 dc1 pm1 cd1 ct1 : Value}
    (a1 : PySem.W.nsIn K mainGlobals "_law_big" = some (some (.ref f1))) (l1 : K.lookup f1 = some ⟨oc1, od1, .func (PySem.W.fnOf "_law_big" "_law_big" (defArgs s__law_big) (defBody s__law_big) (defScope s__law_big) .none kV1 dc1 pm1 an1 cd1 ct1), sl1⟩) (c1 : PySem.W.codeIn K cd1 "_law_big" = true) (k1 : PySem.W.keepIn K (.ref f1) = true)
    {f2 : Addr} {od2 an2 : Option Addr} {sl2 : Array (Option Value)} {oc2 kV2 dc2 pm2 cd2 ct2 : Value}
    (a2 : PySem.W.nsIn K mainGlobals "_law_number" = some (some (.ref f2))) (l2 : K.lookup f2 = some ⟨oc2, od2, .func (PySem.W.fnOf "_law_number" "_law_number" (defArgs s__law_number) (defBody s__law_number) (defScope s__law_number) .none kV2 dc2 pm2 an2 cd2 ct2), sl2⟩) (c2 : PySem.W.codeIn K cd2 "_law_number" = true) (k2 : PySem.W.keepIn K (.ref f2) = true)
    {f3 : Addr} {od3 an3 : Option Addr} {sl3 : Array (Option Value)} {oc3 kV3 dc3 pm3 cd3 ct3 : Value}
    (a3 : PySem.W.nsIn K mainGlobals "_law_poly" = some (some (.ref f3))) (l3 : K.lookup f3 = some ⟨oc3, od3, .func (PySem.W.fnOf "_law_poly" "_law_poly" (defArgs s__law_poly) (defBody s__law_poly) (defScope s__law_poly) .none kV3 dc3 pm3 an3 cd3 ct3), sl3⟩) (c3 : PySem.W.codeIn K cd3 "_law_poly" = true) (k3 : PySem.W.keepIn K (.ref f3) = true)
    {f4 : Addr} {od4 an4 : Option Addr} {sl4 : Array (Option Value)} {oc4 kV4 dc4 pm4 cd4 ct4 : Value}
    (a4 : PySem.W.nsIn K mainGlobals "_law_times" = some (some (.ref f4))) (l4 : K.lookup f4 = some ⟨oc4, od4, .func (PySem.W.fnOf "_law_times" "_law_times" (defArgs s__law_times) (defBody s__law_times) (defScope s__law_times) .none kV4 dc4 pm4 an4 cd4 ct4), sl4⟩) (c4 : PySem.W.codeIn K cd4 "_law_times" = true) (k4 : PySem.W.keepIn K (.ref f4) = true)
    {f5 : Addr} {od5 an5 : Option Addr} {sl5 : Array (Option Value)} {oc5 kV5 dc5 pm5 cd5 ct5 : Value}
    (a5 : PySem.W.nsIn K mainGlobals "_law_pair" = some (some (.ref f5))) (l5 : K.lookup f5 = some ⟨oc5, od5, .func (PySem.W.fnOf "_law_pair" "_law_pair" (defArgs s__law_pair) (defBody s__law_pair) (defScope s__law_pair) .none kV5 dc5 pm5 an5 cd5 ct5), sl5⟩) (c5 : PySem.W.codeIn K cd5 "_law_pair" = true) (k5 : PySem.W.keepIn K (.ref f5) = true)
    {f6 : Addr} {od6 an6 : Option Addr} {sl6 : Array (Option Value)} {oc6 kV6 dc6 pm6 cd6 ct6 : Value}
    (a6 : PySem.W.nsIn K mainGlobals "_law_freed" = some (some (.ref f6))) (l6 : K.lookup f6 = some ⟨oc6, od6, .func (PySem.W.fnOf "_law_freed" "_law_freed" (defArgs s__law_freed) (defBody s__law_freed) (defScope s__law_freed) .none kV6 dc6 pm6 an6 cd6 ct6), sl6⟩) (c6 : PySem.W.codeIn K cd6 "_law_freed" = true) (k6 : PySem.W.keepIn K (.ref f6) = true)
    {f7 : Addr} {od7 an7 : Option Addr} {sl7 : Array (Option Value)} {oc7 kV7 dc7 pm7 cd7 ct7 : Value}
    (a7 : PySem.W.nsIn K mainGlobals "_law_trim" = some (some (.ref f7))) (l7 : K.lookup f7 = some ⟨oc7, od7, .func (PySem.W.fnOf "_law_trim" "_law_trim" (defArgs s__law_trim) (defBody s__law_trim) (defScope s__law_trim) .none kV7 dc7 pm7 an7 cd7 ct7), sl7⟩) (c7 : PySem.W.codeIn K cd7 "_law_trim" = true) (k7 : PySem.W.keepIn K (.ref f7) = true)
    {f8 : Addr} {od8 an8 : Option Addr} {sl8 : Array (Option Value)} {oc8 kV8 dc8 pm8 cd8 ct8 : Value}
    (a8 : PySem.W.nsIn K mainGlobals "_law_rest" = some (some (.ref f8))) (l8 : K.lookup f8 = some ⟨oc8, od8, .func (PySem.W.fnOf "_law_rest" "_law_rest" (defArgs s__law_rest) (defBody s__law_rest) (defScope s__law_rest) .none kV8 dc8 pm8 an8 cd8 ct8), sl8⟩) (c8 : PySem.W.codeIn K cd8 "_law_rest" = true) (k8 : PySem.W.keepIn K (.ref f8) = true)
    {f9 : Addr} {od9 an9 : Option Addr} {sl9 : Array (Option Value)} {oc9 kV9 dc9 pm9 cd9 ct9 : Value}
    (a9 : PySem.W.nsIn K mainGlobals "_law_common" = some (some (.ref f9))) (l9 : K.lookup f9 = some ⟨oc9, od9, .func (PySem.W.fnOf "_law_common" "_law_common" (defArgs s__law_common) (defBody s__law_common) (defScope s__law_common) .none kV9 dc9 pm9 an9 cd9 ct9), sl9⟩) (c9 : PySem.W.codeIn K cd9 "_law_common" = true) (k9 : PySem.W.keepIn K (.ref f9) = true)
    {f10 : Addr} {od10 an10 : Option Addr} {sl10 : Array (Option Value)} {oc10 kV10 dc10 pm10 cd10 ct10 : Value}
    (a10 : PySem.W.nsIn K mainGlobals "common_divisor" = some (some (.ref f10))) (l10 : K.lookup f10 = some ⟨oc10, od10, .func (PySem.W.fnOf "common_divisor" "common_divisor" (defArgs s_common_divisor) (defBody s_common_divisor) (defScope s_common_divisor) .none kV10 dc10 pm10 an10 cd10 ct10), sl10⟩) (c10 : PySem.W.codeIn K cd10 "common_divisor" = true) (k10 : PySem.W.keepIn K (.ref f10) = true)
    {f11 : Addr} {od11 an11 : Option Addr} {sl11 : Array (Option Value)} {oc11 kV11 dc11 pm11 cd11 ct11 : Value}
    (a11 : PySem.W.nsIn K mainGlobals "freed" = some (some (.ref f11))) (l11 : K.lookup f11 = some ⟨oc11, od11, .func (PySem.W.fnOf "freed" "freed" (defArgs s_freed) (defBody s_freed) (defScope s_freed) .none kV11 dc11 pm11 an11 cd11 ct11), sl11⟩) (c11 : PySem.W.codeIn K cd11 "freed" = true) (k11 : PySem.W.keepIn K (.ref f11) = true)
    {f12 : Addr} {od12 an12 : Option Addr} {sl12 : Array (Option Value)} {oc12 kV12 dc12 pm12 cd12 ct12 : Value}
    (a12 : PySem.W.nsIn K mainGlobals "trimmed" = some (some (.ref f12))) (l12 : K.lookup f12 = some ⟨oc12, od12, .func (PySem.W.fnOf "trimmed" "trimmed" (defArgs s_trimmed) (defBody s_trimmed) (defScope s_trimmed) .none kV12 dc12 pm12 an12 cd12 ct12), sl12⟩) (c12 : PySem.W.codeIn K cd12 "trimmed" = true) (k12 : PySem.W.keepIn K (.ref f12) = true)
    {f13 : Addr} {od13 an13 : Option Addr} {sl13 : Array (Option Value)} {oc13 kV13 dc13 pm13 cd13 ct13 : Value}
    (a13 : PySem.W.nsIn K mainGlobals "parted" = some (some (.ref f13))) (l13 : K.lookup f13 = some ⟨oc13, od13, .func (PySem.W.fnOf "parted" "parted" (defArgs s_parted) (defBody s_parted) (defScope s_parted) .none kV13 dc13 pm13 an13 cd13 ct13), sl13⟩) (c13 : PySem.W.codeIn K cd13 "parted" = true) (k13 : PySem.W.keepIn K (.ref f13) = true)
    {f14 : Addr} {od14 an14 : Option Addr} {sl14 : Array (Option Value)} {oc14 kV14 dc14 pm14 cd14 ct14 : Value}
    (a14 : PySem.W.nsIn K mainGlobals "common_part" = some (some (.ref f14))) (l14 : K.lookup f14 = some ⟨oc14, od14, .func (PySem.W.fnOf "common_part" "common_part" (defArgs s_common_part) (defBody s_common_part) (defScope s_common_part) .none kV14 dc14 pm14 an14 cd14 ct14), sl14⟩) (c14 : PySem.W.codeIn K cd14 "common_part" = true) (k14 : PySem.W.keepIn K (.ref f14) = true)
    {f15 : Addr} {od15 an15 : Option Addr} {sl15 : Array (Option Value)} {oc15 kV15 dc15 pm15 cd15 ct15 : Value}
    (a15 : PySem.W.nsIn K mainGlobals "_law_whole" = some (some (.ref f15))) (l15 : K.lookup f15 = some ⟨oc15, od15, .func (PySem.W.fnOf "_law_whole" "_law_whole" (defArgs s__law_whole) (defBody s__law_whole) (defScope s__law_whole) .none kV15 dc15 pm15 an15 cd15 ct15), sl15⟩) (c15 : PySem.W.codeIn K cd15 "_law_whole" = true) (k15 : PySem.W.keepIn K (.ref f15) = true)
    {f16 : Addr} {od16 an16 : Option Addr} {sl16 : Array (Option Value)} {oc16 kV16 dc16 pm16 cd16 ct16 : Value}
    (a16 : PySem.W.nsIn K mainGlobals "_law_good" = some (some (.ref f16))) (l16 : K.lookup f16 = some ⟨oc16, od16, .func (PySem.W.fnOf "_law_good" "_law_good" (defArgs s__law_good) (defBody s__law_good) (defScope s__law_good) .none kV16 dc16 pm16 an16 cd16 ct16), sl16⟩) (c16 : PySem.W.codeIn K cd16 "_law_good" = true) (k16 : PySem.W.keepIn K (.ref f16) = true)
    {f17 : Addr} {od17 an17 : Option Addr} {sl17 : Array (Option Value)} {oc17 kV17 dc17 pm17 cd17 ct17 : Value}
    (a17 : PySem.W.nsIn K mainGlobals "law" = some (some (.ref f17))) (l17 : K.lookup f17 = some ⟨oc17, od17, .func (PySem.W.fnOf "law" "law" (defArgs s_law) (defBody s_law) (defScope s_law) .none kV17 dc17 pm17 an17 cd17 ct17), sl17⟩) (c17 : PySem.W.codeIn K cd17 "law" = true) (k17 : PySem.W.keepIn K (.ref f17) = true)
    (z_abs : PySem.W.nsIn K mainGlobals "abs" = some none)
    (z_all : PySem.W.nsIn K mainGlobals "all" = some none)
    (z_bool : PySem.W.nsIn K mainGlobals "bool" = some none)
    (z_int : PySem.W.nsIn K mainGlobals "int" = some none)
    (z_isinstance : PySem.W.nsIn K mainGlobals "isinstance" = some none)
    (z_len : PySem.W.nsIn K mainGlobals "len" = some none)
    (z_list : PySem.W.nsIn K mainGlobals "list" = some none)
    (z_range : PySem.W.nsIn K mainGlobals "range" = some none)
    : ∃ fd : FuncData, (∀ (s : Shared) (v : Value), BindsTo s fd ⟨[v], []⟩ [("_law_script", v)]) ∧ ∀ base : Heap, base.NoSeer → K.In base → base.Ns mainGlobals mg → FnOk l.prog w K mg base CX0 45 fa fd ["_law_script"] (spOf K 1 v_law) := by
  have e := hfa.symm.trans (PySem.W.mg_of X G a17)
  cases e
  have F0 := fun_mk (st := s__law_cell_at) l0 c0 k0
  have B0 := F0.binds (ps := ["_law_script", "_law_k"]) fun _ _ _ _ _ _ us hl => match us, hl with | [_, _], _ => rfl
  have F1 := fun_mk (st := s__law_big) l1 c1 k1
  have B1 := F1.binds (ps := ["_law_script", "_law_at"]) fun _ _ _ _ _ _ us hl => match us, hl with | [_, _], _ => rfl
  have F2 := fun_mk (st := s__law_number) l2 c2 k2
  have B2 := F2.binds (ps := ["_law_big_here", "_law_figures"]) fun _ _ _ _ _ _ us hl => match us, hl with | [_, _], _ => rfl
  have F3 := fun_mk (st := s__law_poly) l3 c3 k3
  have B3 := F3.binds (ps := ["_law_big_here", "_law_most", "_law_figures"]) fun _ _ _ _ _ _ us hl => match us, hl with | [_, _, _], _ => rfl
  have F4 := fun_mk (st := s__law_times) l4 c4 k4
  have B4 := F4.binds (ps := ["_law_one", "_law_other"]) fun _ _ _ _ _ _ us hl => match us, hl with | [_, _], _ => rfl
  have F5 := fun_mk (st := s__law_pair) l5 c5 k5
  have B5 := F5.binds (ps := ["_law_script"]) fun _ _ _ _ _ _ us hl => match us, hl with | [_], _ => rfl
  have F6 := fun_mk (st := s__law_freed) l6 c6 k6
  have B6 := F6.binds (ps := ["_law_numbers"]) fun _ _ _ _ _ _ us hl => match us, hl with | [_], _ => rfl
  have F7 := fun_mk (st := s__law_trim) l7 c7 k7
  have B7 := F7.binds (ps := ["_law_numbers"]) fun _ _ _ _ _ _ us hl => match us, hl with | [_], _ => rfl
  have F8 := fun_mk (st := s__law_rest) l8 c8 k8
  have B8 := F8.binds (ps := ["_law_one", "_law_other"]) fun _ _ _ _ _ _ us hl => match us, hl with | [_, _], _ => rfl
  have F9 := fun_mk (st := s__law_common) l9 c9 k9
  have B9 := F9.binds (ps := ["_law_one", "_law_other"]) fun _ _ _ _ _ _ us hl => match us, hl with | [_, _], _ => rfl
  have F10 := fun_mk (st := s_common_divisor) l10 c10 k10
  have B10 := F10.binds (ps := ["numbers"]) fun _ _ _ _ _ _ us hl => match us, hl with | [_], _ => rfl
  have F11 := fun_mk (st := s_freed) l11 c11 k11
  have B11 := F11.binds (ps := ["numbers"]) fun _ _ _ _ _ _ us hl => match us, hl with | [_], _ => rfl
  have F12 := fun_mk (st := s_trimmed) l12 c12 k12
  have B12 := F12.binds (ps := ["numbers"]) fun _ _ _ _ _ _ us hl => match us, hl with | [_], _ => rfl
  have F13 := fun_mk (st := s_parted) l13 c13 k13
  have B13 := F13.binds (ps := ["one", "other"]) fun _ _ _ _ _ _ us hl => match us, hl with | [_, _], _ => rfl
  have F14 := fun_mk (st := s_common_part) l14 c14 k14
  have B14 := F14.binds (ps := ["one", "other"]) fun _ _ _ _ _ _ us hl => match us, hl with | [_, _], _ => rfl
  have F15 := fun_mk (st := s__law_whole) l15 c15 k15
  have B15 := F15.binds (ps := ["_law_found"]) fun _ _ _ _ _ _ us hl => match us, hl with | [_], _ => rfl
  have F16 := fun_mk (st := s__law_good) l16 c16 k16
  have B16 := F16.binds (ps := ["_law_one", "_law_other", "_law_due"]) fun _ _ _ _ _ _ us hl => match us, hl with | [_, _, _], _ => rfl
  have F17 := fun_mk (st := s_law) l17 c17 k17
  refine ⟨PySem.W.fnOf "law" "law" (defArgs s_law) (defBody s_law) (defScope s_law) .none kV17 dc17 pm17 an17 cd17 ct17, fun s v => .of_eq rfl, fun base hs _ _ => ?_⟩
  have T : Blt mg := ⟨PySem.W.mg_none_of X G z_abs, PySem.W.mg_none_of X G z_all, PySem.W.mg_none_of X G z_bool, PySem.W.mg_none_of X G z_int, PySem.W.mg_none_of X G z_isinstance, PySem.W.mg_none_of X G z_len, PySem.W.mg_none_of X G z_list, PySem.W.mg_none_of X G z_range⟩
  have G0 : FnAt l.prog w K mg base 41 "_law_cell_at" 2 v_cell := ⟨_, _, _, fn_data F0 sc__law_cell_at rfl rfl (b__law_cell_at T ) val_does ht hs, PySem.W.mg_of X G a0, F0.kp, B0⟩
  have G1 : FnAt l.prog w K mg base 42 "_law_big" 2 v_big := ⟨_, _, _, fn_data F1 sc__law_big rfl rfl (b__law_big T G0) val_does ht hs, PySem.W.mg_of X G a1, F1.kp, B1⟩
  have G2 : FnAt l.prog w K mg base 41 "_law_number" 2 v_number := ⟨_, _, _, fn_data F2 sc__law_number rfl rfl (b__law_number T ) val_does ht hs, PySem.W.mg_of X G a2, F2.kp, B2⟩
  have G3 : FnAt l.prog w K mg base 42 "_law_poly" 3 v_poly := ⟨_, _, _, fn_data F3 sc__law_poly rfl rfl (b__law_poly T G2) val_does ht hs, PySem.W.mg_of X G a3, F3.kp, B3⟩
  have G4 : FnAt l.prog w K mg base 41 "_law_times" 2 v_times := ⟨_, _, _, fn_data F4 sc__law_times rfl rfl (b__law_times T ) val_does ht hs, PySem.W.mg_of X G a4, F4.kp, B4⟩
  have G5 : FnAt l.prog w K mg base 43 "_law_pair" 1 v_pair := ⟨_, _, _, fn_data F5 sc__law_pair rfl rfl (b__law_pair T G1 G3 G4) val_does ht hs, PySem.W.mg_of X G a5, F5.kp, B5⟩
  have G6 : FnAt l.prog w K mg base 41 "_law_freed" 1 v_lfreed := ⟨_, _, _, fn_data F6 sc__law_freed rfl rfl (b__law_freed T ) val_does ht hs, PySem.W.mg_of X G a6, F6.kp, B6⟩
  have G7 : FnAt l.prog w K mg base 41 "_law_trim" 1 v_ltrim := ⟨_, _, _, fn_data F7 sc__law_trim rfl rfl (b__law_trim T ) val_does ht hs, PySem.W.mg_of X G a7, F7.kp, B7⟩
  have G8 : FnAt l.prog w K mg base 42 "_law_rest" 2 v_lrest := ⟨_, _, _, fn_data F8 sc__law_rest rfl rfl (b__law_rest T G7) val_does ht hs, PySem.W.mg_of X G a8, F8.kp, B8⟩
  have G9 : FnAt l.prog w K mg base 43 "_law_common" 2 v_lcommon := ⟨_, _, _, fn_data F9 sc__law_common rfl rfl (b__law_common T G8 G6) val_does ht hs, PySem.W.mg_of X G a9, F9.kp, B9⟩
  have G10 : FnAt l.prog w K mg base 41 "common_divisor" 1 v_gcd := ⟨_, _, _, fn_data F10 sc_common_divisor rfl rfl (b_common_divisor T ) val_does ht hs, PySem.W.mg_of X G a10, F10.kp, B10⟩
  have G11 : FnAt l.prog w K mg base 42 "freed" 1 v_freed := ⟨_, _, _, fn_data F11 sc_freed rfl rfl (b_freed T G10) val_does ht hs, PySem.W.mg_of X G a11, F11.kp, B11⟩
  have G12 : FnAt l.prog w K mg base 41 "trimmed" 1 v_trimmed := ⟨_, _, _, fn_data F12 sc_trimmed rfl rfl (b_trimmed T ) val_does ht hs, PySem.W.mg_of X G a12, F12.kp, B12⟩
  have G13 : FnAt l.prog w K mg base 42 "parted" 2 v_parted := ⟨_, _, _, fn_data F13 sc_parted rfl rfl (b_parted T G12) val_does ht hs, PySem.W.mg_of X G a13, F13.kp, B13⟩
  have G14 : FnAt l.prog w K mg base 43 "common_part" 2 v_common := ⟨_, _, _, fn_data F14 sc_common_part rfl rfl (b_common_part T G13 G11) val_does ht hs, PySem.W.mg_of X G a14, F14.kp, B14⟩
  have G15 : FnAt l.prog w K mg base 41 "_law_whole" 1 v_whole := ⟨_, _, _, fn_data F15 sc__law_whole rfl rfl (b__law_whole T ) val_does ht hs, PySem.W.mg_of X G a15, F15.kp, B15⟩
  have G16 : FnAt l.prog w K mg base 44 "_law_good" 3 v_good := ⟨_, _, _, fn_data F16 sc__law_good rfl rfl (b__law_good T G14 G15) val_does ht hs, PySem.W.mg_of X G a16, F16.kp, B16⟩
  exact fn_data F17 sc_law rfl rfl (b_law T G5 G9 G16 G6) val_does ht hs
theorem sp_end {K : PySem.W.Frag} {H : Hp} {a : Addr} {ns : List Int} {φ : Fn} {E : XK} (hS : SqL K H a (ns.map V.int)) (h : φ [.scr ns] = some (fB true)) : spOf K 1 φ [.ref a] H (fun v _ => v = .bl true) E :=
  ⟨rfl, H, [.scr ns], fB true, Same.refl _, .cons (.scr hS) .nil, h, fun F' H' fp v r => by
    have o := r.own
    cases o with
    | frz rp => cases rp; rfl⟩
end Law
open PySem PySem.W PyProof.Rows
set_option maxHeartbeats 0 in
theorem PySem.Challenge.cw_foreverrows_k44_common_parts_holds : PySem.Challenge.rw_foreverrows_k44_common_parts.Holds := by
  w_on; o_law; k_head; (case hw => w_witness2)
  k_fill
  refine Z.walk_seen (l := PySem.Challenge.rw_foreverrows_k44_common_parts) (n := 63) (k := 45) (x := "_law_script") (CX := fun _ => L2.CX0) (sp := fun w => Z.spOf _ 1 Law.v_law) rfl (by decide) rfl ⟨rfl, by decide, by decide⟩ (by decide +kernel) (fun w h Y => PySem.W.kIn_of Y) ?F (fun _ _ a ns hl hb _ hS => Law.sp_end hS (Law.t_law ns)) (fun _ _ _ _ _ h => h)
  case F =>
    intro w mg fa h KX G hmg
    refine' Law.all_mk rfl KX G hmg ?a0 ?l0 ?c0 ?k0 ?a1 ?l1 ?c1 ?k1 ?a2 ?l2 ?c2 ?k2 ?a3 ?l3 ?c3 ?k3 ?a4 ?l4 ?c4 ?k4 ?a5 ?l5 ?c5 ?k5 ?a6 ?l6 ?c6 ?k6 ?a7 ?l7 ?c7 ?k7 ?a8 ?l8 ?c8 ?k8 ?a9 ?l9 ?c9 ?k9 ?a10 ?l10 ?c10 ?k10 ?a11 ?l11 ?c11 ?k11 ?a12 ?l12 ?c12 ?k12 ?a13 ?l13 ?c13 ?k13 ?a14 ?l14 ?c14 ?k14 ?a15 ?l15 ?c15 ?k15 ?a16 ?l16 ?c16 ?k16 ?a17 ?l17 ?c17 ?k17 ?z_abs ?z_all ?z_bool ?z_int ?z_isinstance ?z_len ?z_list ?z_range
    (case a0 => k_is); (case l0 => k_is); (case c0 => k_is); (case k0 => k_is)
    (case a1 => k_is); (case l1 => k_is); (case c1 => k_is); (case k1 => k_is)
    (case a2 => k_is); (case l2 => k_is); (case c2 => k_is); (case k2 => k_is)
    (case a3 => k_is); (case l3 => k_is); (case c3 => k_is); (case k3 => k_is)
    (case a4 => k_is); (case l4 => k_is); (case c4 => k_is); (case k4 => k_is)
    (case a5 => k_is); (case l5 => k_is); (case c5 => k_is); (case k5 => k_is)
    (case a6 => k_is); (case l6 => k_is); (case c6 => k_is); (case k6 => k_is)
    (case a7 => k_is); (case l7 => k_is); (case c7 => k_is); (case k7 => k_is)
    (case a8 => k_is); (case l8 => k_is); (case c8 => k_is); (case k8 => k_is)
    (case a9 => k_is); (case l9 => k_is); (case c9 => k_is); (case k9 => k_is)
    (case a10 => k_is); (case l10 => k_is); (case c10 => k_is); (case k10 => k_is)
    (case a11 => k_is); (case l11 => k_is); (case c11 => k_is); (case k11 => k_is)
    (case a12 => k_is); (case l12 => k_is); (case c12 => k_is); (case k12 => k_is)
    (case a13 => k_is); (case l13 => k_is); (case c13 => k_is); (case k13 => k_is)
    (case a14 => k_is); (case l14 => k_is); (case c14 => k_is); (case k14 => k_is)
    (case a15 => k_is); (case l15 => k_is); (case c15 => k_is); (case k15 => k_is)
    (case a16 => k_is); (case l16 => k_is); (case c16 => k_is); (case k16 => k_is)
    (case a17 => k_is); (case l17 => k_is); (case c17 => k_is); (case k17 => k_is)
    (case z_abs => k_is)
    (case z_all => k_is)
    (case z_bool => k_is)
    (case z_int => k_is)
    (case z_isinstance => k_is)
    (case z_len => k_is)
    (case z_list => k_is)
    (case z_range => k_is)

